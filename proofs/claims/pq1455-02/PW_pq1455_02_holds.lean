import PyProof.Rows.All
import Wide.All
import OpenK.AllK
import Wide.FinOn
import PySem.Challenge.RW_pq1455_02
open PySem PySem.W PyProof.Rows PySem.Calls PySem.Spec
set_option Elab.async false
set_option maxRecDepth 100000
set_option linter.unusedVariables false
set_option linter.unusedSimpArgs false
set_option rowWalk.seconds 0
set_option compiler.extract_closed false
namespace Mine
structure Box (p : Prop) : Prop where
  out : p
theorem boxed {p : Prop} (h : p) : Box p := ⟨h⟩
theorem keepP {p : Prop} (h : p) : p := h
section
open PySem.W.X PySem.W.ZRun
noncomputable def keptOf (B : List Stmt) : List Stmt := (B.drop 1).take 3 ++ ((B.drop 5).take 43 ++ ((B.drop 49).take 7 ++ B.drop 57))
noncomputable def progQ : Program := PySem.Challenge.rw_pq1455_02.row.toRowW.1
noncomputable def viewQ : Program := { progQ with main := { progQ.main with body := keptOf progQ.main.body } }
noncomputable def topRunT (tb : String → Option Builtin) (p : Program) (w : World) (n₀ : Nat) (ann : Option Value) : Nat → SharedT → Thread → Option SharedT
  | 0, _, _ => none
  | n + 1, s, t => match through t with
    | true => some s
    | false => match stepOk n₀ ann t with
      | false => none
      | true => match stepT (denote tb) p w s t with
        | some (s', t') => topRunT tb p w n₀ ann n s' t'
        | none => none
theorem topRun_of {tb : String → Option Builtin} {p : Program} {w : World} {n₀ : Nat} {ann : Option Value} : ∀ {n : Nat} {s s' : SharedT} {t : Thread}, topRunT tb p w n₀ ann n s t = some s' → topRun tb p w n₀ ann n s.abs t = some s'.abs
  | 0, _, _, _, h => by cases h
  | n + 1, s, s', t, h => by
    unfold topRunT at h
    unfold topRun
    cases he : through t with
    | true => rw [he] at h; cases h; rfl
    | false =>
      rw [he] at h
      cases hk : stepOk n₀ ann t with
      | false => rw [hk] at h; cases h
      | true =>
        rw [hk] at h
        cases hs : stepT (denote tb) p w s t with
        | none => rw [hs] at h; cases h
        | some r => obtain ⟨s₂, t₂⟩ := r; rw [hs] at h; rw [stepT_spec hs]; exact topRun_of h
noncomputable def grow (T : BT) : Nat → List Obj → BT
  | _, [] => T
  | i, o :: r => grow (T.ins i o) (i + 1) r
noncomputable def bt0 (P : Params) : BT := grow .nil 0 (boot_heap P).objs.toList
noncomputable def bootT (w : World) (os : OsState) : SharedT := ⟨bt0 w.params, (boot_heap w.params).objs.size, (boot_heap w.params).life, Array.mk [], boot_drawn, boot_toks, os⟩
theorem abs0 (w : World) (os : OsState) : (bootT w os).abs = ⟨boot_heap w.params, Array.mk [], boot_drawn, boot_toks, os⟩ := by kernel_rfl
noncomputable def stepF (p : Program) (w : World) (s : SharedT) (t : Thread) : Option (SharedT × Thread) := Fast.tw10156331382660048174 (Fast.tw11892475500146522536 Fast.tw14364793385576792824) p w s t
noncomputable def okF (n₀ : Nat) (ann : Option Value) (t : Thread) : Bool := Fast.tw6613529449190102663 n₀ ann t
theorem stepF_eq (p : Program) (w : World) (s : SharedT) (t : Thread) : stepT (denote treeTable) p w s t = stepF p w s t := by
  unfold stepF
  rw [Fast.te10156331382660048174, Fast.te11892475500146522536, Fast.te14364793385576792824]
theorem okF_eq (n₀ : Nat) (ann : Option Value) (t : Thread) : stepOk n₀ ann t = okF n₀ ann t := by
  unfold okF
  rw [Fast.te6613529449190102663]
noncomputable def topRunF (p : Program) (w : World) (n₀ : Nat) (ann : Option Value) : Nat → SharedT → Thread → Option SharedT
  | 0, _, _ => none
  | n + 1, s, t => match through t with
    | true => some s
    | false => match okF n₀ ann t with
      | false => none
      | true => match stepF p w s t with
        | some (s', t') => topRunF p w n₀ ann n s' t'
        | none => none
termination_by structural n => n
theorem topRunF_eq {p : Program} {w : World} {n₀ : Nat} {ann : Option Value} : ∀ (n : Nat) (s : SharedT) (t : Thread), topRunT treeTable p w n₀ ann n s t = topRunF p w n₀ ann n s t
  | 0, _, _ => rfl
  | n + 1, s, t => by
    unfold topRunT topRunF
    rw [stepF_eq, okF_eq]
    cases through t with
    | true => rfl
    | false =>
      cases okF n₀ ann t with
      | false => rfl
      | true =>
        cases stepF p w s t with
        | none => rfl
        | some r => exact topRunF_eq n _ _
theorem open0 : ∀ w : World, (fencedOpening treeTable progQ w 4470).map (fun s => (s.heap, s.gens, s.drawn, s.toks)) = some (boot_heap w.params, Array.mk [], boot_drawn, boot_toks) :=
  boot_open (by kernel_rfl) (by kernel_rfl) (fun s => by kernel_rfl)
noncomputable abbrev runQ (w : World) (os : OsState) : Option SharedT := topRunF progQ w 11 (some (.ref 6)) 4470 (bootT w os) (topStub progQ)
noncomputable abbrev flagQ (w : World) (s : Shared) : Bool := staticsOk (importedModules progQ.main.body) (boot_heap w.params) s.heap && namesBound progQ s.heap && gensDone s && laidKept (boot_heap w.params) s.heap
noncomputable abbrev XtQ (s : Shared) : Bool := xlAt viewQ ([] : List (PySem.Str × WData)) s && recOk (RowW.records (OpenRow.toRowW PySem.Challenge.rw_pq1455_02.row)) s
theorem both_l {α β γ : Type} {o : Option α} {f : α → β} {g : α → γ} {a : β} {b : γ} (h : o.map (fun s => (f s, g s)) = some (a, b)) : o.map f = some a := by
  cases o with
  | none => cases h
  | some x => exact congrArg some (congrArg Prod.fst (Option.some.inj h))
theorem both_r {α β γ : Type} {o : Option α} {f : α → β} {g : α → γ} {a : β} {b : γ} (h : o.map (fun s => (f s, g s)) = some (a, b)) : o.map g = some b := by
  cases o with
  | none => cases h
  | some x => exact congrArg some (congrArg Prod.snd (Option.some.inj h))
theorem tree_both (w : World) (os : OsState) : (runQ w os).map (fun s => (flagQ w s.abs, openSeen viewQ ([] : List PySem.Str) (importedModules progQ.main.body) XtQ true s.abs)) = some (true, openGood viewQ []) := by kernel_rfl
theorem tree_flags (w : World) (os : OsState) : (runQ w os).map (fun s => flagQ w s.abs) = some true := both_l (tree_both w os)
theorem tree_seen (w : World) (os : OsState) : (runQ w os).map (fun s => openSeen viewQ ([] : List PySem.Str) (importedModules progQ.main.body) XtQ true s.abs) = some (openGood viewQ []) := both_r (tree_both w os)
theorem topFrom_of {tb : String → Option Builtin} {p : Program} {w : World} {N n : Nat} {ann : Option Value} {s₀ s₁ : Shared} (z1 : s₀.heap.objs.size = n) (z2 : (s₀.heap.isNs mainGlobals && s₀.gens.size == 0) = true) (z3 : s₀.heap.nsMap mainGlobals "__annotations__" = ann)
    (t : topRun tb p w n ann N s₀ (topStub p) = some s₁) (f : (staticsOk (importedModules p.main.body) s₀.heap s₁.heap && namesBound p s₁.heap && gensDone s₁ && laidKept s₀.heap s₁.heap) = true) : topFrom tb p w N s₀ = some s₁ := by
  unfold topFrom
  rw [z2, z1, z3]
  dsimp only
  rw [t]
  simp only [Option.bind_some, f]
theorem left_gen {p q : Program} {loose : List PySem.Str} {Xt : Shared → Bool} {N n : Nat} {ann : Option Value} {B : Params → Heap} {gs : Array GenState} {d : Drawn} {k : Nat} {R : World → OsState → Option SharedT}
    (open_ : ∀ w : World, (fencedOpening treeTable p w N).map (fun s => (s.heap, s.gens, s.drawn, s.toks)) = some (B w.params, gs, d, k))
    (size : ∀ P : Params, ((B P).objs.size, ((B P).isNs mainGlobals && gs.size == 0), (B P).nsMap mainGlobals "__annotations__") = (n, true, ann))
    (run : ∀ w os s, R w os = some s → topRun treeTable p w n ann N ⟨B w.params, gs, d, k, os⟩ (topStub p) = some s.abs)
    (flags : ∀ w os, (R w os).map (fun s => staticsOk (importedModules p.main.body) (B w.params) s.abs.heap && namesBound p s.abs.heap && gensDone s.abs && laidKept (B w.params) s.abs.heap) = some true)
    (seen_ : ∀ w os, (R w os).map (fun s => openSeen q loose (importedModules p.main.body) Xt true s.abs) = some (openGood q loose))
    {α : Type} {Yf : Shared → α} {Ya : World → α} (h : ∀ w os, (R w os).map (fun s => Yf s.abs) = some (Ya w)) : LeftO p q loose Xt Yf Ya N := fun w => by
  obtain ⟨⟨hp, gs', d', k', os⟩, e, e'⟩ := Option.map_eq_some_iff.mp (open_ w)
  obtain ⟨rfl, rfl, rfl, rfl⟩ : hp = B w.params ∧ gs' = gs ∧ d' = d ∧ k' = k := by simpa only [Prod.mk.injEq] using e'
  obtain ⟨s₁, r, y⟩ := Option.map_eq_some_iff.mp (h w os)
  obtain ⟨s₂, r₂, f⟩ := Option.map_eq_some_iff.mp (flags w os)
  obtain ⟨s₃, r₃, g⟩ := Option.map_eq_some_iff.mp (seen_ w os)
  obtain rfl : s₁ = s₂ := Option.some.inj (r.symm.trans r₂)
  obtain rfl : s₁ = s₃ := Option.some.inj (r.symm.trans r₃)
  obtain ⟨z1, z2, z3⟩ : _ ∧ _ ∧ _ := by simpa only [Prod.mk.injEq] using size w.params
  unfold openEnds
  rw [e]
  show (topFrom treeTable p w N _).map _ = _
  rw [topFrom_of z1 z2 z3 (run w os s₁ r) f]
  exact congrArg some (Prod.ext g y)
theorem run0 (w : World) (os : OsState) (s : SharedT) (r : runQ w os = some s) : topRun treeTable progQ w 11 (some (.ref 6)) 4470 ⟨boot_heap w.params, Array.mk [], boot_drawn, boot_toks, os⟩ (topStub progQ) = some s.abs := by
  rw [← abs0]
  exact topRun_of ((topRunF_eq 4470 (bootT w os) (topStub progQ)).trans r)
theorem size0 (P : Params) : ((boot_heap P).objs.size, ((boot_heap P).isNs mainGlobals && (Array.mk [] : Array GenState).size == 0), (boot_heap P).nsMap mainGlobals "__annotations__") = (11, true, some (.ref 6)) := by kernel_rfl
theorem left_tree {α : Type} {Yf : Shared → α} {Ya : World → α} (h : ∀ w os, (runQ w os).map (fun s => Yf s.abs) = some (Ya w)) : LeftO progQ viewQ [] XtQ Yf Ya 4470 := left_gen open0 size0 run0 tree_flags tree_seen h
theorem row_said0 : PySem.Challenge.rw_pq1455_02.row.wellSaid = true := by kernel_rfl
theorem law_said : PySem.Challenge.rw_pq1455_02.wellSaid = true := by
  unfold OpenLaw.wellSaid
  rw [row_said0]
  kernel_rfl
local macro_rules | `(tactic| k_head) => `(tactic| x_head)
local macro_rules | `(tactic| o_law) => `(tactic| refine holds_law law_said fun said => ?_)
local macro_rules | `(tactic| o_head $H) => `(tactic| (refine holds_open (q := viewQ) (loose := ([] : List PySem.Str)) (Xt := XtQ) (XP := XL viewQ ([] : List (PySem.Str × WData))) (Yf := Hook.obs $H) (Ya := Hook.val $H) (YP := Hook.says $H) (N := 4470) ?hl (Hook.of $H) (Hook.keeps $H) (fun s e => xl_of s (Bool.and_eq_true_iff.mp e).1) XL.keeps (by rfl) (by rfl) (by rfl) (fun s e => recFacts_of (Bool.and_eq_true_iff.mp e).2) (by first | rfl | fail "open_line: no head takes a call that writes beside a table") (by first | assumption | decide +kernel) (by decide +kernel) ⟨rfl, rfl, rfl, rfl, rfl, by decide +kernel⟩ ?hw ?hc; (case hl => exact left_tree fun w os => by kernel_rfl)))
set_option maxHeartbeats 0 in
open_top hd for PySem.Challenge.rw_pq1455_02
end
theorem top_off : True := by
  w_top off
  trivial
section
theorem dict_mapFields (f : Array Value → Array Value) (o : Obj) : (Obj.mapFields f o).dict = o.dict := by
  unfold Obj.mapFields; split <;> rfl

/-- the exception object at e: of the class at 31, with the dict at dx, with a traceback -/
noncomputable def TracedD (h base : Heap) (e dx : Addr) (fl : Value) : Prop :=
  ∃ oe vs T oT ts, h.get? e = some oe ∧ oe.cls = .ref 31 ∧ oe.dict = some dx ∧ oe.data = .fields vs ∧ vs[1]? = some (.ref T) ∧ base.get? T = none ∧ T ≠ e ∧
    h.get? T = some oT ∧ oT.data = .fields ts ∧ ts[3]? = some fl
noncomputable def FlyD (base : Heap) (l : List Env) (e dx : Addr) (fl : Value) (h : Heap) : Prop :=
  base.StaysIn h ∧ base.get? e = none ∧ h.FunFrames base l ∧ TracedD h base e dx fl

section
variable {M : Model} {A : Around} {E : Value → Shared → Prop} {s : Shared} {base : Heap} {env : Env} {outer : List Env} {L e dx : Addr}

theorem entryD {oe : Obj} {vs : Array Value} {head : Value} {hadNext : Bool} {Q : Unit → Shared → Prop}
    (hfr : A.frames = some (env :: outer)) (hl : s.heap.FunFrames base (env :: outer)) (hf : env.frame = some L)
    (he : s.heap.get? e = some oe) (hc : oe.cls = .ref 31) (hx : oe.dict = some dx) (hkb : base.StaysIn s.heap) (hen : base.get? e = none) (hd : oe.data = .fields vs) (hsz : 1 < vs.size)
    (h : ∀ h', FlyD base (env :: outer) e dx (rawInt L) h' → s.heap.UpToSlots h' → Q () { s with heap := h' }) :
    wpAny M A (do let a ← frameOf env; let pl ← entryPlaceOf L hadNext; let b ← EntryCells.newEntry head a .none (rawInt L) .none pl; setField (.ref e) 1 b) Q E s := by
  have hene : e ∉ (env :: outer).filterMap (·.frame) := fun hm => by
    obtain ⟨_, o, ho, hnf⟩ := hl.mem hm
    rw [he] at ho
    cases ho
    exact hnf vs hd
  refine wpAny_bind (wpAny_frameOf_fun hfr hl hf fun h₁ hs₁ => ?_)
  refine wpAny_bind (wpAny_entryPlaceOf fun pl hpl => ?_)
  unfold EntryCells.newEntry newFields
  refine wpAny_bind (wpAny_newObj_type ?_ (hpl.sizeOk5 _ _ _ _ _))
  generalize hob : ({ cls := .type "traceback", dict := none, data := .fields ([head, .ref L, .none, rawInt L, .none] ++ (if pl.isEmpty then List.replicate 6 Value.none else pl)).toArray } : Obj) = ob
  have he₁ : h₁.get? e = some oe := (hs₁.2.1 e hene).trans he
  have kb₁ : base.StaysIn h₁ := fun b o hbo => (hs₁.2.1 b fun hm => by rw [(hl.mem hm).1] at hbo; cases hbo).trans (hkb b o hbo)
  have he₂ := Heap.get?_push_of_some (h := h₁) ob he₁
  refine wpAny_setField he₂ hd hsz ?_
  have hTe : h₁.objs.size ≠ e := Nat.ne_of_gt (Heap.lt_size he₁)
  have hd₃ := Obj.data_mapFields hd (·.setIfInBounds 1 (Value.ref h₁.objs.size))
  have he₃ := Heap.get?_update_self (Obj.mapFields (·.setIfInBounds 1 (Value.ref h₁.objs.size))) he₂ (Obj.isFreed_of_fields hd₃)
  have hobf : ob.isFreed = false := by subst hob; rfl
  have hT₃ := (Heap.get?_update_other (h₁.push ob) (Obj.mapFields (·.setIfInBounds 1 (Value.ref h₁.objs.size))) (Ne.symm hTe)).trans (Heap.get?_push_size h₁ hobf)
  have keep : ∀ b o, b ≠ e → h₁.get? b = some o → ((h₁.push ob).update e (Obj.mapFields (·.setIfInBounds 1 (Value.ref h₁.objs.size)))).get? b = some o := fun b o hbe hb => by
    rw [Heap.get?_update_other _ _ (Ne.symm hbe)]
    exact Heap.get?_push_of_some _ hb
  have noRec : ∀ b o, s.heap.get? b = some o → (∀ ws, o.data ≠ .fields ws) → b ≠ e := fun b o hb hnf q => by
    rw [q, he] at hb
    cases hb
    exact hnf vs hd
  have up : s.heap.UpToSlots ((h₁.push ob).update e (Obj.mapFields (·.setIfInBounds 1 (Value.ref h₁.objs.size)))) := fun b o hb hnf => by
    obtain ⟨sl, hs⟩ := hs₁.2.2 b o hb
    exact ⟨sl, keep b _ (noRec b o hb hnf) hs⟩
  refine h _ ⟨fun b o hbo => keep b o (fun q => by rw [q, hen] at hbo; cases hbo) (kb₁ b o hbo), hen, hl.of_keeps fun b o hb hnf => ?_, ?_⟩ up
  · obtain ⟨sl, hs⟩ := up b o hb hnf
    exact ⟨_, hs, rfl⟩
  · refine ⟨_, _, h₁.objs.size, _, _, he₃, (Obj.cls_mapFields _ _).trans hc, (dict_mapFields _ _).trans hx, hd₃, by simp [hsz], kb₁.fresh, hTe, hT₃, by subst hob; rfl, ?_⟩
    first
    | (simp; done)
    | (rcases hpl with rfl | ⟨_, _, _, _, _, _, _, rfl⟩ <;> simp)

theorem setFlightD {l : List Env} {fl : Value} {Q : Unit → Shared → Prop} (hh : FlyD base l e dx fl s.heap)
    (h : ∀ h', FlyD base l e dx .none h' → s.heap.UpToSlots h' → Q () { s with heap := h' }) : wpAny M A (setFlight (.ref e) none) Q E s := by
  obtain ⟨hkb, hen, hl, oe, vs, T, oT, ts, he, hc, hx, hd, h1, hnT, hTe, hT, hdT, h3⟩ := hh
  have hsz3 : 3 < ts.size := (Array.getElem?_eq_some_iff.mp h3).1
  have other : ∀ b, b ≠ T → (s.heap.update T (Obj.mapFields (·.setIfInBounds 3 ((none : Option Addr).elim Value.none fun f => rawInt f)))).get? b = s.heap.get? b :=
    fun b hb => Heap.get?_update_other _ _ (Ne.symm hb)
  have noRec : ∀ b o, s.heap.get? b = some o → (∀ ws, o.data ≠ .fields ws) → b ≠ T := fun b o hb hnf q => by
    rw [q, hT] at hb
    cases hb
    exact hnf ts hdT
  unfold setFlight
  refine wpAny_bind (wpAny_field he hd h1 ?_)
  rw [if_pos (show (Value.ref T != Value.none) = true from by simp)]
  refine wpAny_setField hT hdT hsz3 (h _ ⟨fun b o hbo => (other b fun q => by rw [q, hnT] at hbo; cases hbo).trans (hkb b o hbo), hen,
    hl.of_keeps fun b o hb hnf => ⟨o, (other b (noRec b o hb hnf)).trans hb, rfl⟩, ?_⟩ fun b o hb hnf => ⟨o.slots, (other b (noRec b o hb hnf)).trans hb⟩)
  exact ⟨oe, vs, T, _, _, (other e (Ne.symm hTe)).trans he, hc, hx, hd, h1, hnT, hTe, Heap.get?_update_self _ hT (Obj.isFreed_of_fields (Obj.data_mapFields hdT _)), Obj.data_mapFields hdT _, by simp [hsz3]⟩

/-- the first note of a frame: no traceback yet -/
theorem noteFirstD {oe : Obj} {vs : Array Value} {Q : Unit → Shared → Prop} (hfr : A.frames = some (env :: outer)) (hl : s.heap.FunFrames base (env :: outer)) (hf : env.frame = some L)
    (he : s.heap.get? e = some oe) (hc : oe.cls = .ref 31) (hx : oe.dict = some dx) (hkb : base.StaysIn s.heap) (hen : base.get? e = none) (hd : oe.data = .fields vs) (h1 : vs[1]? = some .none)
    (h : ∀ h', FlyD base (env :: outer) e dx (rawInt L) h' → s.heap.UpToSlots h' → Q () { s with heap := h' }) : wpAny M A (noteFrame (.ref e) env) Q E s := by
  unfold noteFrame
  simp only [hf]
  refine wpAny_bind (wpAny_field he hd h1 ?_)
  rw [if_neg (by decide)]
  exact entryD hfr hl hf he hc hx hkb hen hd (Array.getElem?_eq_some_iff.mp h1).1 h

/-- a note of a frame further out -/
theorem noteNextD {Q : Unit → Shared → Prop} (hfr : A.frames = some (env :: outer)) (hf : env.frame = some L) (hh : FlyD base (env :: outer) e dx .none s.heap)
    (h : ∀ h', FlyD base (env :: outer) e dx (rawInt L) h' → s.heap.UpToSlots h' → Q () { s with heap := h' }) : wpAny M A (noteFrame (.ref e) env) Q E s := by
  obtain ⟨hkb, hen, hl, oe, vs, T, oT, ts, he, hc, hx, hd, h1, hnT, hTe, hT, hdT, h3⟩ := hh
  unfold noteFrame
  simp only [hf]
  refine wpAny_bind (wpAny_field he hd h1 ?_)
  rw [if_pos (show (Value.ref T != Value.none) = true from by simp)]
  refine wpAny_bind (wpAny_field hT hdT h3 ?_)
  rw [if_neg (show ¬ ((Value.none == rawInt L) = true) from by simp [rawInt])]
  refine wpAny_bind (wpAny_setField hT hdT (Array.getElem?_eq_some_iff.mp h3).1 ?_)
  have other : ∀ b, b ≠ T → (s.heap.update T (Obj.mapFields (·.setIfInBounds 3 Value.none))).get? b = s.heap.get? b := fun b hb => Heap.get?_update_other _ _ (Ne.symm hb)
  have noRec : ∀ b o, s.heap.get? b = some o → (∀ ws, o.data ≠ .fields ws) → b ≠ T := fun b o hb hnf q => by
    rw [q, hT] at hb
    cases hb
    exact hnf ts hdT
  refine entryD hfr (hl.of_keeps fun b o hb hnf => ⟨o, (other b (noRec b o hb hnf)).trans hb, rfl⟩) hf ((other e (Ne.symm hTe)).trans he) hc hx
    (fun b o hbo => (other b fun q => by rw [q, hnT] at hbo; cases hbo).trans (hkb b o hbo)) hen hd (Array.getElem?_eq_some_iff.mp h1).1
    fun h' f u => h h' f fun b o hb hnf => u b o ((other b (noRec b o hb hnf)).trans hb) hnf

theorem FlyD.pop {fl : Value} {h : Heap} (x : FlyD base (env :: outer) e dx fl h) : FlyD base outer e dx fl h := ⟨x.1, x.2.1, x.2.2.1.2.2, x.2.2.2⟩

theorem leaveFirstD {oe : Obj} {vs : Array Value} {Q : Unit → Shared → Prop} (hfr : A.frames = some (env :: outer)) (hl : s.heap.FunFrames base (env :: outer)) (hf : env.frame = some L)
    (he : s.heap.get? e = some oe) (hc : oe.cls = .ref 31) (hx : oe.dict = some dx) (hkb : base.StaysIn s.heap) (hen : base.get? e = none) (hd : oe.data = .fields vs) (h1 : vs[1]? = some .none)
    (h : ∀ h', FlyD base outer e dx .none h' → s.heap.UpToSlots h' → Q () { s with heap := h' }) : wpAny M A (leaving env (.ref e)) Q E s := by
  unfold leaving
  exact wpAny_bind (noteFirstD hfr hl hf he hc hx hkb hen hd h1 fun h₁ f₁ u₁ => setFlightD f₁ fun h₂ f₂ u₂ => h h₂ f₂.pop (u₁.trans u₂))
theorem leaveNextD {Q : Unit → Shared → Prop} (hfr : A.frames = some (env :: outer)) (hf : env.frame = some L) (hh : FlyD base (env :: outer) e dx .none s.heap)
    (h : ∀ h', FlyD base outer e dx .none h' → s.heap.UpToSlots h' → Q () { s with heap := h' }) : wpAny M A (leaving env (.ref e)) Q E s := by
  unfold leaving
  exact wpAny_bind (noteNextD hfr hf hh fun h₁ f₁ u₁ => setFlightD f₁ fun h₂ f₂ u₂ => h h₂ f₂.pop (u₁.trans u₂))
end
end
section
theorem get0 {a : Value} {r : List Value} : (a :: r).toArray[(0 : Int).toNat]? = some a := rfl
theorem get1 {a b : Value} {r : List Value} : (a :: b :: r).toArray[(1 : Int).toNat]? = some b := rfl
theorem get2 {a b c : Value} {r : List Value} : (a :: b :: c :: r).toArray[(2 : Int).toNat]? = some c := rfl
theorem get3 {a b c d : Value} {r : List Value} : (a :: b :: c :: d :: r).toArray[(3 : Int).toNat]? = some d := rfl
theorem getm1_2 {a b : Value} : [a, b].toArray[((-1 : Int) + ([a, b].toArray.size : Int)).toNat]? = some b := rfl
theorem getm2_2 {a b : Value} : [a, b].toArray[((-2 : Int) + ([a, b].toArray.size : Int)).toNat]? = some a := rfl
theorem getm1_3 {a b c : Value} : [a, b, c].toArray[((-1 : Int) + ([a, b, c].toArray.size : Int)).toNat]? = some c := rfl
theorem getm2_3 {a b c : Value} : [a, b, c].toArray[((-2 : Int) + ([a, b, c].toArray.size : Int)).toNat]? = some b := rfl
theorem item_neg {prog : Program} {w : World} {A : Around} {E : Value → Shared → Prop} {s : Shared} {value slice : PySem.Expr} {l : Addr} {items : Array Value} {k : Int} {u : Tok} {x : Value} {Q : Value → Shared → Prop} (hl : s.heap.IsList l items)
    (h0 : k < 0) (h1 : -(items.size : Int) ≤ k) (hf : -(2 ^ 63) ≤ k) (hx : items[(k + items.size).toNat]? = some x) (h : Q x s)
    (hs : subscripted slice false (.ref l) (.int k u) = operate [.ref l, .int k u] (getItem (.ref l) (.int k u)) := by with_unfolding_all rfl) (hg : ∀ r, letTemporaryGo value (.ref l) r = pure () := by intro _; with_unfolding_all rfl) :
    wpAny (model prog w) A (subscriptTail value slice (.ref l) (.int k u)) Q E s := subscriptTail_builtin hl.typeIs slot_list_getitem.lookup (wpAny_getItem_list_neg hl h0 h1 hf hx h) hs hg
end
section
open PySem.W.X
abbrev kindObj (hs : Int) (kk : PySem.Str) (kt : Tok) (k : PySem.Str) (t : Tok) : Obj := { cls := .type "dict", data := .dict (Array.mk [⟨hs, .str kk kt, .str k t⟩]) 1 }
structure MadeB (h h' : Heap) (e : Addr) (k : PySem.Str) : Prop where
  keeps : ∀ b o, h.get? b = some o → h'.get? b = some o
  new : h.get? e = none
  there : ∃ tp dx hs kt t, h'.get? e = some { cls := .ref 31, dict := some dx, data := .fields (Array.mk [.ref tp, .none, .none, .none, .bool false, .none]) } ∧ h.get? dx = none ∧ h'.get? dx = some (kindObj hs (Str.ofString "kind") kt k t)
theorem madeB_of {h h' : Heap} {news : List (Addr × Obj)} {e tp dx : Addr} {hs : Int} {kk k : PySem.Str} {kt t : Tok} (D : Mem h h' [] news)
    (i j : Nat) (he : news[i]? = some (e, { cls := .ref 31, dict := some dx, data := .fields (Array.mk [.ref tp, .none, .none, .none, .bool false, .none]) })) (hd : news[j]? = some (dx, kindObj hs kk kt k t)) (hk : kk = Str.ofString "kind") : MadeB h h' e k := by
  subst hk
  have me := List.mem_of_getElem? he
  have md := List.mem_of_getElem? hd
  exact ⟨fun b o q => D.keep b o q (by simp [away]), (D.nw _ me).2, tp, dx, hs, kt, t, (D.nw _ me).1, (D.nw _ md).2, (D.nw _ md).1⟩
theorem wpAny_weak {α : Type} {M : Model} {A A' : Around} {t : Sem α} {Q : α → Shared → Prop} {E : Value → Shared → Prop} {s : Shared} (h1 : A.handled = A'.handled) (h2 : A.depth ≤ A'.depth) (h3 : A'.frames = none) (h4 : A'.guards = none) (h5 : A.units ≤ A'.units)
    (h : wpAny M A' t Q E s) : wpAny M A t Q E s := fun Γ p hΓ => by
  obtain ⟨a, b, _, _, e⟩ := hΓ
  exact h Γ p ⟨a.trans h1, by omega, (fun l q => by rw [h3] at q; cases q), (fun l q => by rw [h4] at q; cases q), by omega⟩
set_option maxHeartbeats 0
local macro_rules | `(tactic| x_close) => `(tactic| (rename ∀ h' e tk', MadeB _ h' e _ → _ => hret9; refine hret9 _ _ _ (madeB_of (by assumption) 2 0 rfl rfl (by decide +kernel))))
theorem newExc_x {prog : Program} (w : World) (s : Shared) (k : PySem.Str) (t : Tok) (Q E : Value → Shared → Prop) (X : (hd.heap_1 w.params).In s.heap)
   (hret : ∀ h' e tk', MadeB s.heap h' e k → Q (.ref e) { s with heap := h', toks := tk' })
   : wpAny (model prog w) { handled := none, depth := 500, frames := none, guards := none, units := 1000 } (call (.ref 31) [.str k t]) Q E s := by
  revert X; k_fill; intro X
  x_run
end
section
/-- the exception object e of our class, flying over the frames l; news and its dict stand -/
noncomputable def RaisedB (base : Heap) (l : List Env) (e : Addr) (k : PySem.Str) (news : List (Addr × Obj)) (h : Heap) : Prop :=
  ∃ B dx hs kt t, base.StaysIn B ∧ (∀ q ∈ news, B.get? q.1 = some q.2 ∧ base.get? q.1 = none) ∧ FlyD B l e dx .none h ∧ base.get? dx = none ∧ B.get? dx = some (kindObj hs (Str.ofString "kind") kt k t)

section
variable {M : Model} {A A₀ : Around} {E : Value → Shared → Prop} {s s' : Shared} {base g g₂ h : Heap} {outer : List Env} {L a e : Addr} {m : PySem.Str → Option Value} {name : PySem.Str} {scope : Scope} {cd : Value} {Q : Unit → Shared → Prop} {news : List (Addr × Obj)} {k : PySem.Str}

theorem leave_newB (K : Below A base outer g) (hx : MadeB h s'.heap e k) (F : Fr g L h m) (N : News g L h news)
    (hQ : ∀ h', RaisedB base outer e k news h' → g.UpToSlots h' → Q () { s' with heap := h' }) (hk : scope.kind = .function := by rfl) :
    wpAny M (A.deeper (envOf name scope L a cd)) (leaving (envOf name scope L a cd) (.ref e)) Q E s' := by
  obtain ⟨kp, hne, tp, dx, hs, kt, t, he, hndx, hdx⟩ := hx
  have K' := K.push (name := name) (a := a) (cd := cd) F hk
  let fs := e :: (envOf name scope L a cd :: outer).filterMap (·.frame)
  have hin : ∀ env ∈ (envOf name scope L a cd :: outer), ∀ b, env.frame = some b → b ∈ fs := fun env hev b hb => .tail _ (List.mem_filterMap.mpr ⟨env, hev, hb⟩)
  have fresh : ∀ b, h.get? b = none → base.get? b = none := fun b q => by
    cases z : base.get? b with
    | none => rfl
    | some o => have := K'.stays b o z; rw [q] at this; cases this
  have st : base.StaysIn (hideAll s'.heap fs) := fun b o q => hideAll_get _ (kp b o (K'.stays b o q)) fun hm => by
    rcases List.mem_cons.mp hm with rfl | hm
    · rw [fresh _ hne] at q; cases q
    · rw [(K'.frames.mem hm).1] at q; cases q
  have gh : ∀ b o, g.get? b = some o → h.get? b = some o := F.keep
  have inB : ∀ b o, s'.heap.get? b = some o → b ≠ e → (∀ c, h.get? b ≠ some c ∨ g.get? b = none) → b ≠ L → (hideAll s'.heap fs).get? b = some o := fun b o q hbe hc hbL => hideAll_get _ q fun hm => by
    rcases List.mem_cons.mp hm with rfl | hm
    · exact hbe rfl
    · obtain ⟨env, hev, hf⟩ := List.mem_filterMap.mp hm
      rcases List.mem_cons.mp hev with rfl | hev
      · exact hbL (Option.some.inj hf).symm
      · obtain ⟨o', ho', _⟩ := (K.frames.mem (List.mem_filterMap.mpr ⟨env, hev, hf⟩)).2
        have := gh _ _ ho'
        rcases hc o' with z | z
        · exact z this
        · rw [ho'] at z; cases z
  have hl : ∀ q ∈ news, (hideAll s'.heap fs).get? q.1 = some q.2 ∧ base.get? q.1 = none := fun q hq => by
    refine ⟨inB _ _ (kp _ _ (N q hq).1) (fun z => ?_) (fun _ => .inr (N q hq).2.2) (N q hq).2.1, fresh_of_stays K.stays (N q hq).2.2⟩
    have := (N q hq).1
    rw [z, hne] at this
    cases this
  have hdB : (hideAll s'.heap fs).get? dx = some (kindObj hs (Str.ofString "kind") kt k t) := by
    refine inB _ _ hdx (fun z => ?_) (fun c => .inl fun q => by rw [hndx] at q; cases q) fun z => ?_
    · rw [z, he] at hdx; cases hdx
    · obtain ⟨oL, _, _, hL, _⟩ := F.ns
      rw [z, hL] at hndx
      cases hndx
  have hen : (hideAll s'.heap fs).get? e = none := hideAll_none _ (.head _)
  refine leaveFirstD (base := hideAll s'.heap fs) K'.stack (funFrames_hide (K'.frames.of_keeps fun b o q _ => ⟨o, kp b o q, rfl⟩) hin) rfl he rfl rfl (fun b o q => of_hideAll _ q) hen rfl rfl fun h' f u => ?_
  exact hQ h' ⟨_, dx, hs, kt, t, st, hl, f, fresh _ hndx, hdB⟩ (((Heap.UpToSlots.of_keeps F.keep).trans (Heap.UpToSlots.of_keeps kp)).trans u)

theorem leave_onB (K : Below A base outer g) (F : Fr g L g₂ m) (R : RaisedB base (envOf name scope L a cd :: outer) e k news s'.heap) (hsm : g₂.UpToSlots s'.heap)
    (hQ : ∀ h', RaisedB base outer e k news h' → g.UpToSlots h' → Q () { s' with heap := h' }) :
    wpAny M (A.deeper (envOf name scope L a cd)) (leaving (envOf name scope L a cd) (.ref e)) Q E s' := by
  obtain ⟨B, dx, hs, kt, t, hB, hl, hfl, hn, hdx⟩ := R
  exact leaveNextD (Around.frames_deeper K.stack) rfl hfl fun h' f u => hQ h' ⟨B, dx, hs, kt, t, hB, hl, f, hn, hdx⟩ ((Heap.UpToSlots.of_keeps F.keep).trans (hsm.trans u))
end
end
section
theorem kts31 (P : Params) : ktsIn (hd.heap_1 P) 31 "Exception" = true := by kernel_rfl
theorem keep31 (P : Params) : keepIn (hd.heap_1 P) (.ref 31) = true := by kernel_rfl

theorem raiseStmt_B {w : World} {A : Around} {E : Value → Shared → Prop} {s : Shared} {env : Env} {x : Sem Value} {Q : Flow → Shared → Prop} (hh : A.handled = none)
    (h : wpAny (model PySem.Challenge.rw_pq1455_02.row.prog w) A x (fun v s₁ => ∃ e h₀ k, v = .ref e ∧ (hd.heap_1 w.params).In s₁.heap ∧ MadeB h₀ s₁.heap e k ∧ E (.ref e) s₁) E s) :
    wpAny (model PySem.Challenge.rw_pq1455_02.row.prog w) A (raiseStmt env (some x) none) Q E s := by
  unfold raiseStmt
  refine wpAny_bind (wpAny_mono h (fun v s₁ h₁ => ?_) fun _ _ x => x)
  obtain ⟨e, h₀, k, rfl, X, hm, hE⟩ := h₁
  obtain ⟨tp, dx, hs, kt, t, he, _, _⟩ := hm.there
  obtain ⟨nm, qn, N, bs, bm, hdct, sn, sub, ab, col, dd, k0, k1, k2, k3, k5, newId, hC, hB, _⟩ := kts_cls X (kts31 w.params)
  have hcB : (Value.ref 31 :: bm).contains (.type "BaseException") = true := by rw [List.contains_cons, hB, Bool.or_true]
  obtain ⟨hp, g, d, tk, os⟩ := s₁
  repeat (first | with_reducible refine wpAny_loadPart_at he ?_ | with_reducible refine wpAny_loadPart_at hC ?_ | (with_reducible refine wpAny_isSubtype_exc hC ?_; rw [hcB]) | wp_step)
  exact wpAny_raiseNew_none hh hE

theorem raise_B {w : World} {A : Around} {E : Value → Shared → Prop} {s : Shared} {g : Heap} {L a : Addr} {m mg mb : PySem.Str → Option Value} {cn : PySem.Str} {cs : Scope} {ccd : Value} {p : Program} {loose : List PySem.Str}
    {k : PySem.Str} {np kp cpos pos : Pos} {kk : Nat} {Q : Flow → Shared → Prop}
    (F : Fr g L s.heap m) (X : (hd.heap_1 w.params).In g) (T : TopRead p loose mg mb g) (hh : A.handled = none) (hdp : A.depth ≤ 500) (hu : A.units ≤ 1000)
    (hE : ∀ h' e tk', MadeB s.heap h' e k → E (.ref e) { s with heap := h', toks := tk' })
    (hk : cs.kind = .function := by rfl) (hx : (envOf cn cs L a ccd).kindOf (Str.ofString "BasicError") = some .globalImplicit := by rfl) :
    wpAny (model PySem.Challenge.rw_pq1455_02.row.prog w) A (exec (.Raise (some (.Call (.Name (Str.ofString "BasicError") np) [.Constant (.str k) kk kp] [] cpos)) none pos) (envOf cn cs L a ccd)) Q E s := by
  revert X
  k_fill
  intro X
  rw [arm_exec_Raise]
  refine wpAny_bind (wpAny_standAt (raiseStmt_B hh ?_))
  refine wpAny_bind (wpAny_mono (Q := fun v s₁ => ∃ e h₀ k, v = .ref e ∧ (hd.heap_1 w.params).In s₁.heap ∧ MadeB h₀ s₁.heap e k ∧ E (.ref e) s₁) ?_ (fun v s₃ h₃ => wpAny_bind (wpAny_standAt (wpAny_pure h₃))) fun _ _ x => x)
  refine wpAny_Call_ofName (name_K F X T (by k_is) ?_ hk hx (by decide))
  refine callWith_K (X.keeps F.keep) (keep31 _) ?_
  refine spliced_more (Constant_str (spliced_none ⟨X.keeps F.keep, ?_⟩))
  refine wpAny_weak (A' := { handled := none, depth := 500, frames := none, guards := none, units := 1000 }) hh hdp rfl rfl hu (newExc_x w _ k _ _ _ (X.keeps F.keep) fun h' e tk' hm => ?_)
  exact ⟨e, _, k, rfl, (X.keeps F.keep).keeps hm.keeps, hm, hE h' e tk' hm⟩
end
theorem look_hit {x : PySem.Str} {a r : Option Value} : (if x = x then a else r) = a := if_pos rfl
theorem look_miss {c : Prop} [i : Decidable c] {a r : Option Value} {v : Option Value} (h : decide c = false) (e : r = v) : (if c then a else r) = v := (if_neg (of_decide_eq_false h)).trans e
theorem lookup_if {β : Type} {y k : PySem.Str} {v : β} {l : List (PySem.Str × β)} : List.lookup y ((k, v) :: l) = if y = k then some v else List.lookup y l := by
  rw [List.lookup_cons]
  by_cases h : y = k
  · rw [if_pos h, h, beq_self_eq_true]
  · rw [if_neg h, beq_eq_false_iff_ne.mpr h]
/-- a frame's map with one name set anew -/
noncomputable def up (m : PySem.Str → Option Value) (x : PySem.Str) (v : Value) : PySem.Str → Option Value := fun y => if y = x then some v else m y
theorem up_hit {m : PySem.Str → Option Value} {x : PySem.Str} {v : Value} : up m x v x = some v := if_pos rfl
theorem up_miss {m : PySem.Str → Option Value} {x y : PySem.Str} {v : Value} {r : Option Value} (h : decide (y = x) = false) (e : m y = r) : up m x v y = r := (if_neg (of_decide_eq_false h)).trans e
local macro_rules | `(tactic| tm_at "lk") => `(tactic| (repeat (first | with_reducible exact up_hit | (with_reducible refine up_miss ?h ?_; (case h => kernel_rfl)) | with_reducible exact look_hit | (with_reducible refine look_miss ?h ?_; (case h => kernel_rfl)) | with_reducible assumption)))
local macro_rules | `(tactic| tm_at "mem") => `(tactic| (repeat (first | with_reducible assumption | exact List.Mem.head _ | refine' List.Mem.tail _ ?_ | assumption)))
local macro_rules | `(tactic| tm_at "c1") => `(tactic| ((case F => with_reducible assumption); (case e => exact rfl); (case v => ((try dsimp only); tm_at "lk"))))
local macro_rules | `(tactic| tm_at "c2") => `(tactic| ((case k => exact rfl); (case x => kernel_rfl); (case d => kernel_rfl); k_whole))
local macro_rules | `(tactic| tm_at "c3") => `(tactic| ((case v' => ((try dsimp only); tm_at "lk")); (case x' => kernel_rfl); (case d' => kernel_rfl)))
local macro_rules | `(tactic| tm_at "c4") => `(tactic| ((case F => with_reducible assumption); (case X => k_asm); (case T => k_asm); (case e => exact rfl); (case f => k_is)))
local macro_rules | `(tactic| tm_at "c5") => `(tactic| ((case c => kernel_rfl); (case s => kernel_rfl); (case l => kernel_rfl); tm_at "c2"))
local macro_rules | `(tactic| tm_at "u1") => `(tactic| ((case k1 => k_asm); (case k2 => k_asm); (case k3 => k_asm); (case k4 => k_asm); (case k5 => k_asm); (case k6 => first | exact rfl | assumption); (case k7 => walk_at "my_room"); (case k8 => walk_at "my_units")))
section
abbrev Tel (w : World) (f : Addr) (vs : List Value) (d u : Nat) (news : List (Addr × Obj)) (Ret : Value → List (Addr × Obj) → Prop) (Exc : PySem.Str → Prop) : Prop :=
  ∀ (lo : List PySem.Str) (mean : ExcName → Option Value) (mg mb : PySem.Str → Option Value) (dp un : Nat) (gd : Option (List Code)) (cn : PySem.Str) (cs : Scope) (a : Addr) (ccd : Value) (cl : List (PySem.Str × Addr)) (outer : List Env) (A₀ : Around) (base h₀ : Heap) (L : Addr) (m : PySem.Str → Option Value) (s : Shared) (Q E : Value → Shared → Prop),
   Below A₀ base outer h₀ → Fr h₀ L s.heap m → (hd.heap_1 w.params).In h₀ → News h₀ L s.heap news → Top viewQ lo mean mg mb h₀ → cs.kind = .function →
   dp + d < 450 → un + u < 900 →
   (∀ v news' h' tk', Fr h₀ L h' m → News h₀ L h' news' → Ret v news' → Q v { s with heap := h', toks := tk' }) →
   (∀ k e g news' h' tk', Exc k → Fr h₀ L g m → g.UpToSlots h' → RaisedB base (envX cn cs L a ccd cl :: outer) e k news' h' → (∀ p ∈ news, p ∈ news') → E (.ref e) { s with heap := h', toks := tk' }) →
   wpAny (model PySem.Challenge.rw_pq1455_02.row.prog w) (ktrTop dp un gd cn cs L a ccd cl outer) (call (.ref f) vs) Q E s
theorem Tel.use {w : World} {f : Addr} {vs : List Value} {d u : Nat} {news : List (Addr × Obj)} {Ret : Value → List (Addr × Obj) → Prop} {Exc : PySem.Str → Prop}
   {lo : List PySem.Str} {mean : ExcName → Option Value} {mg mb : PySem.Str → Option Value} {dp un : Nat} {gd : Option (List Code)} {cn : PySem.Str} {cs : Scope} {a : Addr} {ccd : Value} {cl : List (PySem.Str × Addr)} {outer : List Env} {A₀ : Around} {base h₀ : Heap} {L : Addr} {m : PySem.Str → Option Value} {s : Shared} {Q E : Value → Shared → Prop}
   (C : Tel w f vs d u news Ret Exc) (B : Below A₀ base outer h₀) (F : Fr h₀ L s.heap m) (X : (hd.heap_1 w.params).In h₀) (N : News h₀ L s.heap news) (T : Top viewQ lo mean mg mb h₀) (hk : cs.kind = .function)
   (hd : dp + d < 450) (hu : un + u < 900)
   (hret : ∀ v news' h' tk', Fr h₀ L h' m → News h₀ L h' news' → Ret v news' → Q v { s with heap := h', toks := tk' })
   (hexc : ∀ k e g news' h' tk', Exc k → Fr h₀ L g m → g.UpToSlots h' → RaisedB base (envX cn cs L a ccd cl :: outer) e k news' h' → (∀ p ∈ news, p ∈ news') → E (.ref e) { s with heap := h', toks := tk' }) :
   wpAny (model PySem.Challenge.rw_pq1455_02.row.prog w) (ktrTop dp un gd cn cs L a ccd cl outer) (call (.ref f) vs) Q E s := C _ _ _ _ _ _ _ _ _ _ _ _ _ _ _ _ _ _ _ _ _ B F X N T hk hd hu hret hexc
theorem lim_is : recursionLimit = 1000 := rfl
theorem add_nat1 {prog : Program} {w : World} {A : Around} {E : Value → Shared → Prop} {s : Shared} {Q : Value → Shared → Prop} {i : Nat} {t u : Tok} (h : Q (.int ((i + 1 : Nat) : Int) s.toks) { s with toks := s.toks + 1 }) :
    wpAny (model prog w) A (binaryOp .Add (.int (i : Int) t) (.int 1 u)) Q E s := PyProof.Rows.add_int (by
  have e : (i : Int) + 1 = ((i + 1 : Nat) : Int) := by omega
  rw [e]
  exact h)
theorem Tel.mono {w : World} {f : Addr} {vs : List Value} {d u d' u' : Nat} {news : List (Addr × Obj)} {Ret Ret' : Value → List (Addr × Obj) → Prop} {Exc Exc' : PySem.Str → Prop} (C : Tel w f vs d u news Ret Exc) (h1 : d ≤ d') (h2 : u ≤ u')
    (hr : ∀ v n, Ret v n → Ret' v n) (he : ∀ k, Exc k → Exc' k) : Tel w f vs d' u' news Ret' Exc' := by
  intro lo mean mg mb dp un gd cn cs a0 ccd cl outer A₀ base h₀ L m s Q E B F X N T hk hd0 hu0 hret hexc
  exact C.use B F X N T hk (by omega) (by omega) (fun v n h' tk' a b c => hret v n h' tk' a b (hr v n c)) fun k e g n h' tk' a b c d e' => hexc k e g n h' tk' (he k a) b c d e'
theorem lk0 {β : Type} {y : PySem.Str} : List.lookup y ([] : List (PySem.Str × β)) = none := rfl
theorem lk1 {y a : PySem.Str} {va : Value} : List.lookup y [(a, va)] = up (fun _ => none) a va y := by rw [lookup_if, List.lookup_nil]; rfl
theorem lk2 {y a b : PySem.Str} {va vb : Value} : List.lookup y [(b, vb), (a, va)] = up (up (fun _ => none) a va) b vb y := by rw [lookup_if, lk1]; rfl
theorem lk3 {y a b c : PySem.Str} {va vb vc : Value} : List.lookup y [(c, vc), (b, vb), (a, va)] = up (up (up (fun _ => none) a va) b vb) c vc y := by rw [lookup_if, lk2]; rfl
theorem lk4 {y a b c d : PySem.Str} {va vb vc vd : Value} : List.lookup y [(d, vd), (c, vc), (b, vb), (a, va)] = up (up (up (up (fun _ => none) a va) b vb) c vc) d vd y := by rw [lookup_if, lk3]; rfl
theorem lk5 {y a b c d e : PySem.Str} {va vb vc vd ve : Value} : List.lookup y [(e, ve), (d, vd), (c, vc), (b, vb), (a, va)] = up (up (up (up (up (fun _ => none) a va) b vb) c vc) d vd) e ve y := by rw [lookup_if, lk4]; rfl
theorem room_lt {dp d c : Nat} (h : dp + d < 451) (e : Nat.ble (c + 1) d = true) : dp + c < 450 := by
  have := Nat.le_of_ble_eq_true e
  omega
theorem room_le {dp d : Nat} (h : dp + d < 451) : dp ≤ 500 := by omega
theorem unit_lt {un u c : Nat} (h : un + u < 903) (e : Nat.ble (c + 3) u = true) : un + c < 900 := by
  have := Nat.le_of_ble_eq_true e
  omega
theorem unit_le {un u : Nat} (h : un + u < 903) : un ≤ 1000 := by omega
/-- what a function's body must do: in any frame below any caller it ends with a value as Ret says, or raises as Exc says -/
abbrev Bod (w : World) (f : Addr) (qual : PySem.Str) (scope : Scope) (cdv : Value) (body : List Stmt) (m₀ : PySem.Str → Option Value) (d u : Nat) (news : List (Addr × Obj)) (Ret : Value → List (Addr × Obj) → Prop) (Exc : PySem.Str → Prop) : Prop :=
  ∀ (lo : List PySem.Str) (mean : ExcName → Option Value) (mg mb : PySem.Str → Option Value) (dp un : Nat) (gd : Option (List Code)) (outer : List Env) (A₀ : Around) (base h₀ : Heap) (L : Addr) (hp0 : Heap) (gn0 : Array GenState) (dr0 : Drawn) (tk0 : Nat) (os0 : OsState) (Q : Flow → Shared → Prop) (E : Value → Shared → Prop),
   Below A₀ base outer h₀ → Fr h₀ L hp0 m₀ → (hd.heap_1 w.params).In h₀ → News h₀ L hp0 news → Top viewQ lo mean mg mb h₀ → dp + d < 451 → un + u < 903 →
   PassesOwn (model PySem.Challenge.rw_pq1455_02.row.prog w) (ktrTop dp un gd qual scope L f cdv [] outer) (envOf qual scope L f cdv) E →
   (∀ v news' h' tk' {m' : PySem.Str → Option Value}, Fr h₀ L h' m' → News h₀ L h' news' → Ret v news' → Q (.ret v) ⟨h', gn0, dr0, tk', os0⟩) →
   (∀ k e h news' h' tk' {m' : PySem.Str → Option Value}, Exc k → Fr h₀ L h m' → News h₀ L h news' → MadeB h h' e k → (∀ p ∈ news, p ∈ news') → E (.ref e) ⟨h', gn0, dr0, tk', os0⟩) →
   (∀ k e g news' h' tk' {m' : PySem.Str → Option Value}, Exc k → Fr h₀ L g m' → g.UpToSlots h' → RaisedB base (envOf qual scope L f cdv :: outer) e k news' h' → (∀ p ∈ news, p ∈ news') → E (.ref e) ⟨h', gn0, dr0, tk', os0⟩) →
   wpAny (model PySem.Challenge.rw_pq1455_02.row.prog w) (ktrTop dp un gd qual scope L f cdv [] outer) (execs body (envOf qual scope L f cdv)) Q E ⟨hp0, gn0, dr0, tk0, os0⟩
theorem Tel.enter {w : World} {f : Addr} {vs : List Value} {d u : Nat} {news : List (Addr × Obj)} {Ret : Value → List (Addr × Obj) → Prop} {Exc : PySem.Str → Prop}
    {name qual : PySem.Str} {params : Arguments} {body : List Stmt} {scope : Scope} {dV kV doc pm cdv ct oc : Value} {an od : Option Addr} {osl : Array (Option Value)} {binds : List (PySem.Str × Value)} {m₀ : PySem.Str → Option Value}
    (h : Bod w f qual scope cdv body m₀ d u news Ret Exc)
    (ho : (hd.heap_1 w.params).lookup f = some ⟨oc, od, .func (fnOf name qual params body scope dV kV doc pm an cdv ct), osl⟩) (hcd : codeIn (hd.heap_1 w.params) cdv qual = true)
    (hbind : ∀ s, BindsTo s (fnOf name qual params body scope dV kV doc pm an cdv ct) ⟨vs, []⟩ binds) (hloc : ∀ y ∈ binds, scope.names.lookup y.1 = some .local) (hmap : ∀ y, binds.reverse.lookup y = m₀ y)
    (hco : scope.isCoroutine = false) (hgen : scope.isGenerator = false) (hk : scope.kind = .function) (hcell : ∀ x ∈ scope.names, x.2 ≠ .cell) : Tel w f vs d u news Ret Exc := by
  intro lo mean mg mb dp un gd cn cs a0 ccd cl outer A₀ base h₀ L m s Q E B F X N T hk' hd0 hu0 hret hexc
  have hlim := lim_is
  refine wpAny_call (code_def B F X N T rfl rfl hk' ho hcd ?_ (hbind _) hloc (fun g L' h₁ FG F' N' B' X' T' => ?_) hco hgen hk hcell)
  · show dp < recursionLimit
    omega
  · refine h lo mean mg mb (dp + 1) (un + 3) gd (envX cn cs L a0 ccd cl :: outer) _ base g L' _ _ _ _ _ _ _ B' ((funext hmap : (fun y => binds.reverse.lookup y) = m₀) ▸ F') X' N' T' (by omega) (by omega) PassesOwn.leaving ?_ ?_ ?_
    · intro v news' h' tk' m' F2 N2 r
      exact leaveK_ F2 N2 fun kF kN => hret v news' h' tk' kF kN r
    · intro k e h news' h' tk' m' hk2 F2 N2 M2 hs
      exact leave_newB B' M2 F2 N2 (fun h2 R2 U2 => hexc k e g news' h2 tk' hk2 FG U2 R2 hs) hk
    · intro k e g2 news' h' tk' m' hk2 F2 U2 R2 hs
      exact leave_onB B' F2 R2 U2 fun h2 R3 U3 => hexc k e g news' h2 tk' hk2 FG U3 R3 hs
theorem Tel.useS {w : World} {f : Addr} {vs : List Value} {d u : Nat} {news : List (Addr × Obj)} {V : Value}
   {lo : List PySem.Str} {mean : ExcName → Option Value} {mg mb : PySem.Str → Option Value} {dp un : Nat} {gd : Option (List Code)} {cn : PySem.Str} {cs : Scope} {a : Addr} {ccd : Value} {cl : List (PySem.Str × Addr)} {outer : List Env} {A₀ : Around} {base h₀ h₁ : Heap} {gn : Array GenState} {dr : Drawn} {tk : Nat} {os : OsState} {L : Addr} {m : PySem.Str → Option Value} {Q E : Value → Shared → Prop}
   (C : Tel w f vs d u news (fun v n => v = V ∧ n = news) (fun _ => False)) (B : Below A₀ base outer h₀) (F : Fr h₀ L h₁ m) (X : (hd.heap_1 w.params).In h₀) (N : News h₀ L h₁ news) (T : Top viewQ lo mean mg mb h₀) (hk : cs.kind = .function)
   (hd : dp + d < 450) (hu : un + u < 900) (hret : ∀ h' tk', Fr h₀ L h' m → News h₀ L h' news → Q V ⟨h', gn, dr, tk', os⟩) :
   wpAny (model PySem.Challenge.rw_pq1455_02.row.prog w) (ktrTop dp un gd cn cs L a ccd cl outer) (call (.ref f) vs) Q E ⟨h₁, gn, dr, tk, os⟩ :=
  C.use B F X N T hk hd hu (by rintro _ _ h' tk' F2 N2 ⟨e1, e2⟩; subst e1; rw [e2] at N2; exact hret h' tk' F2 N2) fun _ _ _ _ _ _ q => q.elim
theorem Tel.useX {w : World} {f : Addr} {vs : List Value} {d u : Nat} {news : List (Addr × Obj)} {K : PySem.Str}
   {lo : List PySem.Str} {mean : ExcName → Option Value} {mg mb : PySem.Str → Option Value} {dp un : Nat} {gd : Option (List Code)} {cn : PySem.Str} {cs : Scope} {a : Addr} {ccd : Value} {cl : List (PySem.Str × Addr)} {outer : List Env} {A₀ : Around} {base h₀ h₁ : Heap} {gn : Array GenState} {dr : Drawn} {tk : Nat} {os : OsState} {L : Addr} {m : PySem.Str → Option Value} {Q E : Value → Shared → Prop}
   (C : Tel w f vs d u news (fun _ _ => False) (fun k => k = K)) (B : Below A₀ base outer h₀) (F : Fr h₀ L h₁ m) (X : (hd.heap_1 w.params).In h₀) (N : News h₀ L h₁ news) (T : Top viewQ lo mean mg mb h₀) (hk : cs.kind = .function)
   (hd : dp + d < 450) (hu : un + u < 900) (hexc : ∀ e g news' h' tk', Fr h₀ L g m → g.UpToSlots h' → RaisedB base (envX cn cs L a ccd cl :: outer) e K news' h' → (∀ p ∈ news, p ∈ news') → E (.ref e) ⟨h', gn, dr, tk', os⟩) :
   wpAny (model PySem.Challenge.rw_pq1455_02.row.prog w) (ktrTop dp un gd cn cs L a ccd cl outer) (call (.ref f) vs) Q E ⟨h₁, gn, dr, tk, os⟩ :=
  C.use B F X N T hk hd hu (fun _ _ _ _ _ _ q => q.elim) (by rintro k e g news' h' tk' e1 a b c d; subst e1; exact hexc e g news' h' tk' a b c d)
/-- a body in its own frame, of a function with cells that raises nothing -/
abbrev BodC (w : World) (f : Addr) (qual : PySem.Str) (scope : Scope) (cdv : Value) (body : List Stmt) (binds : List (PySem.Str × Value)) (m₀ : PySem.Str → Option Value) (d u : Nat) (news : List (Addr × Obj)) (Ret : Value → List (Addr × Obj) → Prop) : Prop :=
  ∀ (lo : List PySem.Str) (mean : ExcName → Option Value) (mg mb : PySem.Str → Option Value) (dp un : Nat) (gd : Option (List Code)) (outer : List Env) (A₀ : Around) (base h₀ : Heap) (L : Addr) (hp0 : Heap) (gn0 : Array GenState) (dr0 : Drawn) (tk0 : Nat) (os0 : OsState) (Q : Flow → Shared → Prop) (E : Value → Shared → Prop) (cells : List (Addr × Obj)),
   Below A₀ base outer h₀ → Fr h₀ L hp0 m₀ → (hd.heap_1 w.params).In h₀ → News h₀ L hp0 (cells ++ news) → CellsAre (bindC (envOfC qual scope L f cdv).kindOf binds fun _ => none) (cellsFrom (L + 1) scope.names []) cells → Top viewQ lo mean mg mb h₀ → (∀ p ∈ news, p.1 < L) → dp + d < 451 → un + u < 903 →
   PassesOwn (model PySem.Challenge.rw_pq1455_02.row.prog w) (ktrTop dp un gd qual scope L f cdv (cellsFrom (L + 1) scope.names []) outer) (envOfC qual scope L f cdv) E →
   (∀ v news' h' tk' {m' : PySem.Str → Option Value}, Fr h₀ L h' m' → News h₀ L h' news' → Ret v news' → Q (.ret v) ⟨h', gn0, dr0, tk', os0⟩) →
   wpAny (model PySem.Challenge.rw_pq1455_02.row.prog w) (ktrTop dp un gd qual scope L f cdv (cellsFrom (L + 1) scope.names []) outer) (execs body (envOfC qual scope L f cdv)) Q E ⟨hp0, gn0, dr0, tk0, os0⟩
theorem Tel.enterC {w : World} {f : Addr} {vs : List Value} {d u : Nat} {news : List (Addr × Obj)} {Ret : Value → List (Addr × Obj) → Prop} {Exc : PySem.Str → Prop}
    {name qual : PySem.Str} {params : Arguments} {body : List Stmt} {scope : Scope} {dV kV doc pm cdv ct oc : Value} {an od : Option Addr} {osl : Array (Option Value)} {binds : List (PySem.Str × Value)} {m₀ : PySem.Str → Option Value}
    (h : BodC w f qual scope cdv body binds m₀ d u news Ret)
    (ho : (hd.heap_1 w.params).lookup f = some ⟨oc, od, .func (fnOf name qual params body scope dV kV doc pm an cdv ct), osl⟩) (hcd : codeIn (hd.heap_1 w.params) cdv qual = true)
    (hbind : ∀ s, BindsTo s (fnOf name qual params body scope dV kV doc pm an cdv ct) ⟨vs, []⟩ binds) (hkind : (binds.all fun y => scope.names.lookup y.1 == some .local || scope.names.lookup y.1 == some .cell) = true)
    (hnd : ((cellsFrom 0 scope.names []).map (·.1)).Nodup) (hmap : ∀ (L : Addr) (y : PySem.Str), bindL (envOfC qual scope L f cdv).kindOf binds (fun _ => none) y = m₀ y)
    (hco : scope.isCoroutine = false) (hgen : scope.isGenerator = false) (hk : scope.kind = .function) : Tel w f vs d u news Ret Exc := by
  intro lo mean mg mb dp un gd cn cs a0 ccd cl outer A₀ base h₀ L m s Q E B F X N T hk' hd0 hu0 hret hexc
  have hlim := lim_is
  refine wpAny_call (code_defC B F X N T rfl rfl hk' ho hcd ?_ (hbind _) hkind hnd (fun g L' h₁ tk cells FG F' N' Y' B' X' T' l1 => ?_) hco hgen hk)
  · show dp < recursionLimit
    omega
  · refine h lo mean mg mb (dp + 1) (un + 3) gd (envX cn cs L a0 ccd cl :: outer) _ base g L' _ _ _ _ _ _ _ cells B' ((funext (hmap L') : bindL (envOfC qual scope L' f cdv).kindOf binds (fun _ => none) = m₀) ▸ F') X' N' Y' T' l1 (by omega) (by omega) PassesOwn.leaving ?_
    intro v news' h' tk' m' F2 N2 r
    exact leaveK_ F2 N2 fun kF kN => hret v news' h' tk' kF kN r
theorem bl2 {kind : PySem.Str → Option NameKind} {a b y : PySem.Str} {va vb : Value} (ha : kind a = some .local) (hb : kind b = some .cell) : bindL kind [(a, va), (b, vb)] (fun _ => none) y = up (fun _ => none) a va y := by
  simp only [bindL]
  rw [if_pos ha, if_neg (by rw [hb]; decide)]
  rfl
noncomputable def fnAt (p : Params) (a : Addr) : Option FuncData := match (hd.heap_1 p).lookup a with
  | some ⟨_, _, .func f, _⟩ => some f
  | _ => none
noncomputable def bodyAt (p : Params) (a : Addr) : List Stmt := match fnAt p a with
  | some f => (match f.body with | .stmts b => b | _ => [])
  | _ => []
noncomputable def scopeAt (p : Params) (a : Addr) : Scope := match fnAt p a with
  | some f => f.scope
  | _ => default
section
variable {M : Model} {prog : Program} {w : World} {A : Around} {E : Value → Shared → Prop} {s : Shared} {h₁ : Heap} {gn : Array GenState} {dr : Drawn} {tk : Nat} {os : OsState} {h₀ : Heap} {L a : Addr} {m : PySem.Str → Option Value} {cn : PySem.Str} {cs : Scope} {ccd : Value} {cl : List (PySem.Str × Addr)} {x c v : PySem.Str} {t : Tok} {k : Nat} {p1 p2 p3 p4 : Pos} {whole : Sem Value} {b : Bool} {rest body : List Stmt}
theorem isEqS {env : Env} {Q : Bool → Shared → Prop} (F : Fr h₀ L h₁ m) (he : env = envX cn cs L a ccd cl) (hv : m x = some (.str v t)) (hb : (v == c) = b) (h : Q b ⟨h₁, gn, dr, tk + 1, os⟩) (hk : cs.kind = .function) (hx : (envX cn cs L a ccd cl).kindOf x = some .local) (hd : (x == ("__debug__" : PySem.Str)) = false) :
    wpAny (model prog w) A (isTrue (.Compare (.Name x p1) [.Eq] [.Constant (.str c) k p2] p3) env whole) Q E ⟨h₁, gn, dr, tk, os⟩ := by
  subst he
  exact wpAny_isTrue_Compare1 (nameX_L F hv (Constant_str (eq_str (wpAny_truthy_bool (by rw [hb]; exact h)))) hk hx hd)
theorem isNeS {env : Env} {Q : Bool → Shared → Prop} (F : Fr h₀ L h₁ m) (he : env = envX cn cs L a ccd cl) (hv : m x = some (.str v t)) (hb : (v == c) = !b) (h : Q b ⟨h₁, gn, dr, tk + 1, os⟩) (hk : cs.kind = .function) (hx : (envX cn cs L a ccd cl).kindOf x = some .local) (hd : (x == ("__debug__" : PySem.Str)) = false) :
    wpAny (model prog w) A (isTrue (.Compare (.Name x p1) [.NotEq] [.Constant (.str c) k p2] p3) env whole) Q E ⟨h₁, gn, dr, tk, os⟩ := by
  subst he
  exact wpAny_isTrue_Compare1 (nameX_L F hv (Constant_str (ne_str (wpAny_truthy_bool (by rw [show (v != c) = b from by rw [bne, hb, Bool.not_not]]; exact h)))) hk hx hd)
theorem sIfF {env : Env} {Q : Flow → Shared → Prop} {test : Expr} {s' : Shared} (h : wpAny (model prog w) A (execs rest env) Q E s')
    (ht : ∀ Q' : Bool → Shared → Prop, Q' false s' → wpAny (model prog w) A (isTrue test env (eval test env)) Q' E s) :
    wpAny (model prog w) A (execs (.If test body [] p4 :: rest) env) Q E s :=
  wpAny_execs_cons (wpAny_If (ht _ (wpAny_execs_nil h)))
theorem sIfEqF {env : Env} {Q : Flow → Shared → Prop} (F : Fr h₀ L h₁ m) (he : env = envX cn cs L a ccd cl) (hv : m x = some (.str v t)) (hb : (v == c) = false) (h : wpAny (model prog w) A (execs rest env) Q E ⟨h₁, gn, dr, tk + 1, os⟩) (hk : cs.kind = .function) (hx : (envX cn cs L a ccd cl).kindOf x = some .local) (hd : (x == ("__debug__" : PySem.Str)) = false) :
    wpAny (model prog w) A (execs (.If (.Compare (.Name x p1) [.Eq] [.Constant (.str c) k p2] p3) body [] p4 :: rest) env) Q E ⟨h₁, gn, dr, tk, os⟩ :=
  sIfF h fun _ q => isEqS F he hv hb q hk hx hd
theorem sIfNeF {env : Env} {Q : Flow → Shared → Prop} (F : Fr h₀ L h₁ m) (he : env = envX cn cs L a ccd cl) (hv : m x = some (.str v t)) (hb : (v == c) = true) (h : wpAny (model prog w) A (execs rest env) Q E ⟨h₁, gn, dr, tk + 1, os⟩) (hk : cs.kind = .function) (hx : (envX cn cs L a ccd cl).kindOf x = some .local) (hd : (x == ("__debug__" : PySem.Str)) = false) :
    wpAny (model prog w) A (execs (.If (.Compare (.Name x p1) [.NotEq] [.Constant (.str c) k p2] p3) body [] p4 :: rest) env) Q E ⟨h₁, gn, dr, tk, os⟩ :=
  sIfF h fun _ q => isNeS F he hv (b := false) (hb.trans rfl) q hk hx hd
theorem sIfEqT {env : Env} {Q : Flow → Shared → Prop} {orelse : List Stmt} (F : Fr h₀ L h₁ m) (he : env = envX cn cs L a ccd cl) (hv : m x = some (.str v t)) (hb : (v == c) = true) (h : wpAny (model prog w) A (execs body env) (fun f s' => match f with | .next => wpAny (model prog w) A (execs rest env) Q E s' | f => Q f s') E ⟨h₁, gn, dr, tk + 1, os⟩) (hk : cs.kind = .function) (hx : (envX cn cs L a ccd cl).kindOf x = some .local) (hd : (x == ("__debug__" : PySem.Str)) = false) :
    wpAny (model prog w) A (execs (.If (.Compare (.Name x p1) [.Eq] [.Constant (.str c) k p2] p3) body orelse p4 :: rest) env) Q E ⟨h₁, gn, dr, tk, os⟩ :=
  wpAny_execs_cons (wpAny_If (isEqS F he hv hb h hk hx hd))
variable {es : List Expr} {pos : Pos} {n : Int}
theorem argN {env : Env} {u : Value} {Q : List Value → Shared → Prop} (F : Fr h₀ L s.heap m) (he : env = envX cn cs L a ccd cl) (hv : m x = some u) (h : wpAny (model prog w) A (spliced (backTo pos (starEach es env))) (fun vs s₂ => Q (u :: vs) s₂) E s) (hk : cs.kind = .function) (hx : (envX cn cs L a ccd cl).kindOf x = some .local) (hd : (x == ("__debug__" : PySem.Str)) = false) :
    wpAny (model prog w) A (spliced (backTo pos (starEach (.Name x p1 :: es) env))) Q E s := by subst he; exact args_cons (nameX_L F hv h hk hx hd)
theorem argN1 {env : Env} {u : Value} {Q : List Value → Shared → Prop} (F : Fr h₀ L s.heap m) (he : env = envX cn cs L a ccd cl) (hv : m x = some u) (h : Q [u] s) (hk : cs.kind = .function) (hx : (envX cn cs L a ccd cl).kindOf x = some .local) (hd : (x == ("__debug__" : PySem.Str)) = false) :
    wpAny (model prog w) A (spliced (backTo pos (starEach [.Name x p1] env))) Q E s := argN F he hv (args_nil h) hk hx hd
theorem argS {env : Env} {Q : List Value → Shared → Prop} (h : wpAny (model prog w) A (spliced (backTo pos (starEach es env))) (fun vs s₂ => Q (.str c tk :: vs) s₂) E ⟨h₁, gn, dr, tk + 1, os⟩) :
    wpAny (model prog w) A (spliced (backTo pos (starEach (.Constant (.str c) k p1 :: es) env))) Q E ⟨h₁, gn, dr, tk, os⟩ := args_cons (Constant_str h)
theorem argS1 {env : Env} {Q : List Value → Shared → Prop} (h : Q [.str c tk] ⟨h₁, gn, dr, tk + 1, os⟩) :
    wpAny (model prog w) A (spliced (backTo pos (starEach [.Constant (.str c) k p1] env))) Q E ⟨h₁, gn, dr, tk, os⟩ := argS (args_nil h)
theorem argI {env : Env} {Q : List Value → Shared → Prop} (h : wpAny (model prog w) A (spliced (backTo pos (starEach es env))) (fun vs s₂ => Q (.int n tk :: vs) s₂) E ⟨h₁, gn, dr, tk + 1, os⟩) :
    wpAny (model prog w) A (spliced (backTo pos (starEach (.Constant (.int n) k p1 :: es) env))) Q E ⟨h₁, gn, dr, tk, os⟩ := args_cons (wpAny_Constant_int h)
theorem tupSS {env : Env} {c' : PySem.Str} {k' : Nat} {Q : Value → Shared → Prop} (h : wpAny (model prog w) A (newTuple [.str c tk, .str c' (tk + 1)]) Q E ⟨h₁, gn, dr, tk + 1 + 1, os⟩) :
    wpAny (model prog w) A (eval (.Tuple [.Constant (.str c) k p1, .Constant (.str c') k' p2] 0 pos) env) Q E ⟨h₁, gn, dr, tk, os⟩ := Tuple_ (argS (argS1 h))
variable {env : Env} {e e1 : Expr} {op : Operator} {cop : CmpOp} {y : PySem.Str} {u u' : Value} {K : Frag} {p : Program} {loose : List PySem.Str} {mg mb : PySem.Str → Option Value} {f : Addr}
theorem sRet {Q : Flow → Shared → Prop} (h : wpAny (model prog w) A (eval e env) (fun v s' => Q (.ret v) s') E s) : wpAny (model prog w) A (execs (.Return (some e) p1 :: rest) env) Q E s := wpAny_execs_cons (wpAny_Return_some h)
theorem sAsg {Q : Flow → Shared → Prop} (h : wpAny (model prog w) A (eval e env) (fun v s₁ => wpAny (model prog w) A (storeName env x v) (fun _ s₂ => wpAny (model prog w) A (execs rest env) Q E s₂) E s₁) E s) (hs : swapsWith e (some (.Name x p1)) p2.line env = pure false) :
    wpAny (model prog w) A (execs (.Assign [.Name x p1] e p2 :: rest) env) Q E s := wpAny_execs_cons (wpAny_Assign_Name h hs)
theorem sAsgO {Q : Flow → Shared → Prop} (h : ∀ Q2 : Value → Shared → Prop, (∀ v s₁, wpAny (model prog w) A (storeName env x v) (fun _ s₂ => wpAny (model prog w) A (execs rest env) Q E s₂) E s₁ → Q2 v s₁) → wpAny (model prog w) A (eval e env) Q2 E s) (hs : swapsWith e (some (.Name x p1)) p2.line env = pure false) :
    wpAny (model prog w) A (execs (.Assign [.Name x p1] e p2 :: rest) env) Q E s := sAsg (h _ fun _ _ q => q) hs
theorem binNI {Q : Value → Shared → Prop} (F : Fr h₀ L h₁ m) (he : env = envX cn cs L a ccd cl) (hv : m x = some u) (h : wpAny (model prog w) A (binaryOp op u (.int n tk)) Q E ⟨h₁, gn, dr, tk + 1, os⟩) (hk : cs.kind = .function) (hx : (envX cn cs L a ccd cl).kindOf x = some .local) (hd : (x == ("__debug__" : PySem.Str)) = false) :
    wpAny (model prog w) A (eval (.BinOp (.Name x p1) op (.Constant (.int n) k p2) p3) env) Q E ⟨h₁, gn, dr, tk, os⟩ := by subst he; exact wpAny_BinOp (nameX_L F hv (wpAny_Constant_int h) hk hx hd)
theorem binNN {Q : Value → Shared → Prop} (F : Fr h₀ L s.heap m) (he : env = envX cn cs L a ccd cl) (hv : m x = some u) (hv' : m y = some u') (h : wpAny (model prog w) A (binaryOp op u u') Q E s) (hk : cs.kind = .function) (hx : (envX cn cs L a ccd cl).kindOf x = some .local) (hd : (x == ("__debug__" : PySem.Str)) = false) (hx' : (envX cn cs L a ccd cl).kindOf y = some .local) (hd' : (y == ("__debug__" : PySem.Str)) = false) :
    wpAny (model prog w) A (eval (.BinOp (.Name x p1) op (.Name y p2) p3) env) Q E s := by subst he; exact wpAny_BinOp (nameX_L F hv (nameX_L F hv' h hk hx' hd') hk hx hd)
theorem cmpNI {Q : Bool → Shared → Prop} (F : Fr h₀ L h₁ m) (he : env = envX cn cs L a ccd cl) (hv : m x = some u) (h : wpAny (model prog w) A (compareOp cop u (.int n tk)) (fun c s₃ => wpAny (model prog w) A (truthy c) Q E s₃) E ⟨h₁, gn, dr, tk + 1, os⟩) (hm : behindInMarks cop (.Constant (.int n) k p2) = false) (hk : cs.kind = .function) (hx : (envX cn cs L a ccd cl).kindOf x = some .local) (hd : (x == ("__debug__" : PySem.Str)) = false) :
    wpAny (model prog w) A (isTrue (.Compare (.Name x p1) [cop] [.Constant (.int n) k p2] p3) env whole) Q E ⟨h₁, gn, dr, tk, os⟩ := by subst he; exact wpAny_isTrue_Compare1 (nameX_L F hv (wpAny_Constant_int h) hk hx hd) hm
theorem cmpNN {Q : Bool → Shared → Prop} (F : Fr h₀ L s.heap m) (he : env = envX cn cs L a ccd cl) (hv : m x = some u) (hv' : m y = some u') (h : wpAny (model prog w) A (compareOp cop u u') (fun c s₃ => wpAny (model prog w) A (truthy c) Q E s₃) E s) (hm : behindInMarks cop (.Name y p2) = false) (hk : cs.kind = .function) (hx : (envX cn cs L a ccd cl).kindOf x = some .local) (hd : (x == ("__debug__" : PySem.Str)) = false) (hx' : (envX cn cs L a ccd cl).kindOf y = some .local) (hd' : (y == ("__debug__" : PySem.Str)) = false) :
    wpAny (model prog w) A (isTrue (.Compare (.Name x p1) [cop] [.Name y p2] p3) env whole) Q E s := by subst he; exact wpAny_isTrue_Compare1 (nameX_L F hv (nameX_L F hv' h hk hx' hd') hk hx hd) hm
theorem subNI {Q : Value → Shared → Prop} (F : Fr h₀ L h₁ m) (he : env = envX cn cs L a ccd cl) (hv : m x = some u) (h : wpAny (model prog w) A (subscriptTail (.Name x p1) (.Constant (.int n) k p2) u (.int n tk)) Q E ⟨h₁, gn, dr, tk + 1, os⟩) (hk : cs.kind = .function) (hx : (envX cn cs L a ccd cl).kindOf x = some .local) (hd : (x == ("__debug__" : PySem.Str)) = false) :
    wpAny (model prog w) A (eval (.Subscript (.Name x p1) (.Constant (.int n) k p2) p3) env) Q E ⟨h₁, gn, dr, tk, os⟩ := by subst he; exact Subscript_ (nameX_L F hv (wpAny_Constant_int h) hk hx hd)
theorem subNN {Q : Value → Shared → Prop} (F : Fr h₀ L s.heap m) (he : env = envX cn cs L a ccd cl) (hv : m x = some u) (hv' : m y = some u') (h : wpAny (model prog w) A (subscriptTail (.Name x p1) (.Name y p2) u u') Q E s) (hk : cs.kind = .function) (hx : (envX cn cs L a ccd cl).kindOf x = some .local) (hd : (x == ("__debug__" : PySem.Str)) = false) (hx' : (envX cn cs L a ccd cl).kindOf y = some .local) (hd' : (y == ("__debug__" : PySem.Str)) = false) :
    wpAny (model prog w) A (eval (.Subscript (.Name x p1) (.Name y p2) p3) env) Q E s := by subst he; exact Subscript_ (nameX_L F hv (nameX_L F hv' h hk hx' hd') hk hx hd)
theorem callG {Q : Value → Shared → Prop} (F : Fr h₀ L s.heap m) (X : K.In h₀) (T : TopRead p loose mg mb h₀) (he : env = envX cn cs L a ccd cl) (hf : nsIn K mainGlobals x = some (some (.ref f))) (hkp : keepIn K (.ref f) = true)
    (h : wpAny (model prog w) A (spliced (backTo p3 (starEach (e1 :: es) env))) (fun vs s₁ => K.In s₁.heap ∧ wpAny (model prog w) A (call (.ref f) vs) Q E s₁) E s)
    (hc : eval (.Call (.Name x p1) (e1 :: es) [] p3) env = (do callWith p3 (← eval (.Name x p1) env) [] (backTo p3 (starEach (e1 :: es) env)) (backToKw p3 (keywordEach [] env)))) (he1 : starEach (e1 :: es) env = (false, eval e1 env) :: starEach es env) (hpl : (backTo p3 (starEach es env)).any (·.1) = false)
    (hk : cs.kind = .function) (hx : (envX cn cs L a ccd cl).kindOf x = some .globalImplicit) (hd : (x == ("__debug__" : PySem.Str)) = false) :
    wpAny (model prog w) A (eval (.Call (.Name x p1) (e1 :: es) [] p3) env) Q E s := by subst he; exact Call_ (nameX_K F X T hf (callWith_K X hkp h he1 hpl) hk hx hd) hc
theorem callV {v : Value} {Q : Value → Shared → Prop} (F : Fr h₀ L s.heap m) (X : K.In h₀) (T : TopRead p loose mg mb h₀) (he : env = envX cn cs L a ccd cl) (hf : nsIn K mainGlobals x = some none) (hv : bootBuiltins x = some v) (hn : x ≠ "__name__")
    (h : wpAny (model prog w) A (callWith p3 v [] (backTo p3 (starEach es env)) []) Q E s)
    (hc : eval (.Call (.Name x p1) es [] p3) env = (do callWith p3 (← eval (.Name x p1) env) [] (backTo p3 (starEach es env)) (backToKw p3 (keywordEach [] env))))
    (hk : cs.kind = .function) (hx : (envX cn cs L a ccd cl).kindOf x = some .globalImplicit) (hd : (x == ("__debug__" : PySem.Str)) = false) :
    wpAny (model prog w) A (eval (.Call (.Name x p1) es [] p3) env) Q E s := by subst he; exact Call_ (nameX_B F X T hf hv hn h hk hx hd) hc
theorem cwB {id : String} {Q : Value → Shared → Prop} (h : wpAny M A (spliced (backTo p3 (starEach (e1 :: es) env))) (fun vs s₁ => wpAny M A (call (.builtin id) vs) Q E s₁) E s)
    (he1 : starEach (e1 :: es) env = (false, eval e1 env) :: starEach es env) (hpl : (backTo p3 (starEach es env)).any (·.1) = false) : wpAny M A (callWith p3 (.builtin id) [] (backTo p3 (starEach (e1 :: es) env)) []) Q E s := PyProof.Rows.callWith_builtin1 h he1 hpl
theorem cwT {id : String} {Q : Value → Shared → Prop} (h : wpAny M A (spliced (backTo p3 (starEach (e1 :: es) env))) (fun vs s₁ => wpAny M A (call (.type id) vs) Q E s₁) E s)
    (he1 : starEach (e1 :: es) env = (false, eval e1 env) :: starEach es env) (hpl : (backTo p3 (starEach es env)).any (·.1) = false) : wpAny M A (callWith p3 (.type id) [] (backTo p3 (starEach (e1 :: es) env)) []) Q E s := Pv.callWith_type1 h he1 hpl
theorem storeV {v : Value} {news : List (Addr × Obj)} {Q : Unit → Shared → Prop} (F : Fr h₀ L h₁ m) (N : News h₀ L h₁ news) (he : env = envX cn cs L a ccd cl)
    (h : ∀ h', Fr h₀ L h' (up m x v) → News h₀ L h' news → Q () ⟨h', gn, dr, tk + 1, os⟩) (hk : cs.kind = .function) (hx : (envX cn cs L a ccd cl).kindOf x = some .local) : wpAny M A (storeName env x v) Q E ⟨h₁, gn, dr, tk, os⟩ := by
  subst he
  exact storeX_L F N h hk hx
theorem tupN {vs : List Value} {news : List (Addr × Obj)} {Q : Value → Shared → Prop} (F : Fr h₀ L h₁ m) (N : News h₀ L h₁ news)
    (h : ∀ D h', Fr h₀ L h' m → News h₀ L h' ((D, ({ cls := .type "tuple", data := .seq vs.toArray } : Obj)) :: news) → (∀ p ∈ news, p.1 < D) → Q (.ref D) ⟨h', gn, dr, tk, os⟩) (hz : vs.length ≤ sizeLine) : wpAny (model prog w) A (newTuple vs) Q E ⟨h₁, gn, dr, tk, os⟩ := kup_newTuple F N h hz
end
theorem loadL {M : Model} {A : Around} {E : Value → Shared → Prop} {s : Shared} {h₀ : Heap} {L a : Addr} {m : PySem.Str → Option Value} {cn : PySem.Str} {cs : Scope} {ccd : Value} {cl : List (PySem.Str × Addr)} {x : PySem.Str} {env : Env} {u : Value} {Q : Value → Shared → Prop} (F : Fr h₀ L s.heap m) (he : env = envX cn cs L a ccd cl) (hv : m x = some u) (h : Q u s) (hk : cs.kind = .function) (hx : (envX cn cs L a ccd cl).kindOf x = some .local) : wpAny M A (loadName env x) Q E s := by
  subst he
  exact wpAny_loadName_local hk hx F.ns hv h
theorem opq {α : Type} {M : Model} {A : Around} {t : Sem α} {Q : α → Shared → Prop} {E : Value → Shared → Prop} {s : Shared} (h : ∀ Q' : α → Shared → Prop, (∀ a s', Q a s' → Q' a s') → wpAny M A t Q' E s) : wpAny M A t Q E s := h Q fun _ _ q => q
local macro_rules | `(tactic| walk_at "leaving ref") => `(tactic| (k_here; first
  | k_dflt (refine' leave_newB ?k1 ?k0 ?k2 ?k3 ?_; (case k0 => assumption); (case k1 => assumption); (case k2 => assumption); (case k3 => k_asm); k_whole; intro h' R' U'; (try dsimp only at R' U' ⊢))
  | k_dflt (refine' leave_onB ?k1 ?k2 ?k3 ?k4 ?_; (case k3 => assumption); (case k1 => assumption); (case k4 => assumption); (case k2 => assumption); k_whole; intro h' R' U'; (try dsimp only at R' U' ⊢))))
local macro_rules | `(tactic| ktr_call $_x:term $c:term) => `(tactic| (refine' Tel.use $c ?k1 ?k2 ?k3 ?k4 ?k5 ?k6 ?k7 ?k8 ?kr ?ke; (case k1 => k_asm); (case k2 => k_asm); (case k3 => k_asm); (case k4 => k_asm); (case k5 => k_asm); (case k6 => first | exact rfl | assumption); (case k7 => walk_at "my_room"); (case k8 => walk_at "my_units")))
local macro_rules | `(tactic| walk_at "my_ret") => `(tactic| ((case ke => exact fun _ _ _ _ _ _ hk9 => (show False from hk9).elim); intro v9 n9 h9 tk9 F9 N9 hv9; obtain ⟨e1, e2⟩ := hv9; subst e1; replace e2 := e2.symm; subst e2; (try dsimp only); (try k_fold)))
local macro_rules | `(tactic| walk_at "my_drop") => `(tactic| first | k_asm | (refine cb_drop (by k_asm) ?_; intro p9 hp9; simp only [List.mem_cons, List.mem_append, hp9, or_true, true_or]))
local macro_rules | `(tactic| walk_at "eval Name") => `(tactic| (k_here; name_kind "globalImplicit"; k_dflt (refine' nameX_K ?F ?X ?T ?e ?_ ?a ?b ?d; (case F => with_reducible assumption); (case X => k_asm); (case T => k_asm); (case e => k_is); (case a => exact rfl); (case b => kernel_rfl); (case d => kernel_rfl); k_whole)))
local macro_rules | `(tactic| walk_at "eval Name") => `(tactic| (k_here; name_kind "globalImplicit"; name_is_builtin; k_dflt (refine' nameX_B ?F ?X ?T ?e ?v ?n ?_ ?a ?b ?d; (case F => with_reducible assumption); (case X => k_asm); (case T => k_asm); (case e => k_is); (case v => boot_fast); (case n => decide); (case a => exact rfl); (case b => kernel_rfl); (case d => kernel_rfl); k_whole)))
local macro_rules | `(tactic| walk_at "eval Name") => `(tactic| (k_here; name_kind "local"; k_dflt (refine' nameX_L ?k1 ?k2 ?_ ?k4 ?k5 ?k6; (case k1 => with_reducible assumption); (case k2 => ((try dsimp only); tm_at "lk")); (case k4 => exact rfl); (case k5 => kernel_rfl); (case k6 => kernel_rfl); k_whole)))
local macro_rules | `(tactic| walk_at "my_go") => `(tactic| (k_dflt (refine' Tel.enter ?h ?ho ?hcd ?hb ?hl ?hm ?c1 ?c2 ?c3 ?c4; (case' h => (unfold Bod; k_fill)); (case ho => k_is); (case hcd => k_is); (case hb => exact fun _ => BindsTo.of_eq rfl); (case hl => exact locs rfl); (case hm => first | exact fun _ => lk1 | exact fun _ => lk2 | exact fun _ => lk3 | exact fun _ => lk4 | exact fun _ => lk5 | exact fun _ => lk0); (case c1 => exact rfl); (case c2 => exact rfl); (case c3 => exact rfl); (case c4 => decide))))
local macro_rules | `(tactic| walk_at "my_room") => `(tactic| first | exact room_lt (by assumption) rfl | exact room_le (by assumption) | ((try simp only [depth_under_make, depth_under_kw, depth_in1, depth_deeper, depth_caller]); (try dsimp only [ktrTop]); first | omega | decide))
local macro_rules | `(tactic| walk_at "my_units") => `(tactic| first | exact unit_lt (by assumption) rfl | exact unit_le (by assumption) | ((try simp only [units_in1, units_deeper, Around.mark_units, units_caller]); (try dsimp only [ktrTop]); first | omega | decide))
local macro_rules | `(tactic| walk_at "spliced") => `(tactic| (k_here; (first | with_reducible refine argS1 ?_ | with_reducible refine argS ?_ | with_reducible refine argI ?_ | with_reducible refine args_nil ?_ | ((first | with_reducible refine' argN1 ?F ?e ?v ?_ ?k ?x ?d | with_reducible refine' argN ?F ?e ?v ?_ ?k ?x ?d); k_dflt (tm_at "c1"; tm_at "c2")) | k_dflt (with_reducible refine args_cons ?_ (by with_unfolding_all rfl))); (try ((with_reducible show wpAny _ _ (call _ (_ ++ _)) _ _ _); dsimp only [List.nil_append, List.cons_append]))))
local macro_rules | `(tactic| walk_at "eval Tuple") => `(tactic| (k_here; with_reducible refine tupSS ?_))
local macro_rules | `(tactic| walk_at "execs cons Return") => `(tactic| (k_here; with_reducible refine sRet ?_))
local macro_rules | `(tactic| walk_at "execs cons Assign cons") => `(tactic| (k_here; with_reducible refine sAsg ?_ (by with_unfolding_all rfl)))
local macro_rules | `(tactic| walk_at "eval BinOp Name") => `(tactic| (k_here; first | (with_reducible refine' binNI ?F ?e ?v ?_ ?k ?x ?d; k_dflt (tm_at "c1"; tm_at "c2")) | (with_reducible refine' binNN ?F ?e ?v ?v' ?_ ?k ?x ?d ?x' ?d'; k_dflt (tm_at "c1"; tm_at "c3"; tm_at "c2"))))
local macro_rules | `(tactic| walk_at "eval Subscript Name") => `(tactic| (k_here; first | (with_reducible refine' subNI ?F ?e ?v ?_ ?k ?x ?d; k_dflt (tm_at "c1"; tm_at "c2")) | (with_reducible refine' subNN ?F ?e ?v ?v' ?_ ?k ?x ?d ?x' ?d'; k_dflt (tm_at "c1"; tm_at "c3"; tm_at "c2"))))
local macro_rules | `(tactic| walk_at "eval Call Name") => `(tactic| (k_here; with_reducible refine' callV ?F ?X ?T ?e ?f ?v ?n ?_ ?c ?k ?x ?d; k_dflt (tm_at "c4"; (case v => boot_fast); (case n => decide); (case c => kernel_rfl); tm_at "c2"); (first | with_reducible refine cwB ?_ (by kernel_rfl) (by kernel_rfl) | with_reducible refine cwT ?_ (by kernel_rfl) (by kernel_rfl))))
local macro_rules | `(tactic| walk_at "eval Call Name") => `(tactic| (k_here; with_reducible refine' callG ?F ?X ?T ?e ?f ?p ?_ ?c ?s ?l ?k ?x ?d; k_dflt (tm_at "c4"; (case p => k_is); tm_at "c5")))
local macro_rules | `(tactic| walk_at "execs cons If") => `(tactic| (k_here; with_reducible refine' sIfEqT ?F ?e ?v ?b ?_ ?k ?x ?d; k_dflt (tm_at "c1"; (case b => decide +kernel); tm_at "c2")))
local macro_rules | `(tactic| walk_at "execs cons If") => `(tactic| (k_here; (first | with_reducible refine' sIfEqF ?F ?e ?v ?b ?_ ?k ?x ?d | with_reducible refine' sIfNeF ?F ?e ?v ?b ?_ ?k ?x ?d); k_dflt (tm_at "c1"; (case b => decide +kernel); tm_at "c2")))
local macro_rules | `(tactic| walk_at "storeName") => `(tactic| (k_here; with_reducible refine' storeV ?F ?N ?e ?_ ?k ?x; k_dflt ((case F => with_reducible assumption); (case N => with_reducible assumption); (case e => exact rfl); (case k => exact rfl); (case x => exact rfl); k_whole); intro h' F' N'; (try k_sweep)))
local macro_rules | `(tactic| walk_at "newTuple") => `(tactic| (k_here; kup_bare; with_reducible refine' tupN ?F ?N ?_ ?z; (case F => with_reducible assumption); (case N => with_reducible assumption); (case z => k_dflt kmk_size); intro D' h' F' N' l1; (try k_lt l1); (try k_sweep)))
section
set_option maxHeartbeats 4000000
theorem need_number_i (w : World) (x : Int) (t : Tok) (news) : Tel w 79 [.int x t] 3 30 news (fun v n => v = .int x t ∧ n = news) (fun _ => False) := by
  refine Box.out ?_
  simp (disch :=
    k_dflt ((
    refine keepP ?_
    walk_at "my_go"
    intro lo mean mg mb dp un gd outer A₀ base h₀ L hp0 gn0 dr0 tk0 os0 Q E B F X N T hd0 hu0 hP hret hexcN hexc
    (try dsimp only at F)
    k_steps
    all_goals first | exact hret _ _ _ _ (by k_asm) (by k_asm) ⟨rfl, rfl⟩))) only [↓boxed]
theorem need_number_s (w : World) (x : PySem.Str) (t : Tok) (news) : Tel w 79 [.str x t] 3 30 news (fun _ _ => False) (fun k => k = "TM") := by
  refine Box.out ?_
  simp (disch :=
    k_dflt ((
    refine keepP ?_
    walk_at "my_go"
    intro lo mean mg mb dp un gd outer A₀ base h₀ L hp0 gn0 dr0 tk0 os0 Q E B F X N T hd0 hu0 hP hret hexcN hexc
    (try dsimp only at F)
    (repeat' (first | (k_unfold; (try dsimp only)) | (k_end; kc_close) | ((with_reducible show wpAny _ _ (exec (Stmt.Raise _ _ _) _) _ _ _); first | with_reducible ((k_here; k_dflt (refine' raise_B ?k1 ?k2 ?k3 ?k4 ?k5 ?k6 ?_; (case k1 => k_asm); (case k2 => k_asm); (case k3 => k_asm); (case k4 => exact rfl); (case k5 => walk_at "my_room"); (case k6 => walk_at "my_units"); k_whole); intro h' e' tk' hm'))) | walk1 | (dsimp only; walk1) | (leave1; (try dsimp only)) | fail "no step"))
    all_goals first | (first | exact hexc _ _ _ _ _ _ rfl (by k_asm) (by k_asm) (by k_asm) (by first | exact fun _ h => h | assumption) | exact hexcN _ _ _ _ _ _ rfl (by k_asm) (by k_asm) (by k_asm) (by first | exact fun _ h => h | assumption))))) only [↓boxed]
theorem need_text_i (w : World) (x : Int) (t : Tok) (news) : Tel w 86 [.int x t] 3 30 news (fun _ _ => False) (fun k => k = "TM") := by
  refine Box.out ?_
  simp (disch :=
    k_dflt ((
    refine keepP ?_
    walk_at "my_go"
    intro lo mean mg mb dp un gd outer A₀ base h₀ L hp0 gn0 dr0 tk0 os0 Q E B F X N T hd0 hu0 hP hret hexcN hexc
    (try dsimp only at F)
    (repeat' (first | (k_unfold; (try dsimp only)) | (k_end; kc_close) | ((with_reducible show wpAny _ _ (exec (Stmt.Raise _ _ _) _) _ _ _); first | with_reducible ((k_here; k_dflt (refine' raise_B ?k1 ?k2 ?k3 ?k4 ?k5 ?k6 ?_; (case k1 => k_asm); (case k2 => k_asm); (case k3 => k_asm); (case k4 => exact rfl); (case k5 => walk_at "my_room"); (case k6 => walk_at "my_units"); k_whole); intro h' e' tk' hm'))) | walk1 | (dsimp only; walk1) | (leave1; (try dsimp only)) | fail "no step"))
    all_goals first | (first | exact hexc _ _ _ _ _ _ rfl (by k_asm) (by k_asm) (by k_asm) (by first | exact fun _ h => h | assumption) | exact hexcN _ _ _ _ _ _ rfl (by k_asm) (by k_asm) (by k_asm) (by first | exact fun _ h => h | assumption))))) only [↓boxed]
theorem need_text_s (w : World) (x : PySem.Str) (t : Tok) (news) : Tel w 86 [.str x t] 3 30 news (fun v n => v = .str x t ∧ n = news) (fun _ => False) := by
  refine Box.out ?_
  simp (disch :=
    k_dflt ((
    refine keepP ?_
    walk_at "my_go"
    intro lo mean mg mb dp un gd outer A₀ base h₀ L hp0 gn0 dr0 tk0 os0 Q E B F X N T hd0 hu0 hP hret hexcN hexc
    (try dsimp only at F)
    k_steps
    all_goals first | exact hret _ _ _ _ (by k_asm) (by k_asm) ⟨rfl, rfl⟩))) only [↓boxed]
theorem need_count_ok (w : World) (x l : Int) (t tl : Tok) (news) (h1 : l ≤ x) (h2 : x ≤ 255) : Tel w 93 [.int x t, .int l tl] 6 60 news (fun v n => v = .int x t ∧ n = news) (fun _ => False) := by
  refine Box.out ?_
  simp (disch :=
    k_dflt ((
    refine keepP ?_
    walk_at "my_go"
    intro lo mean mg mb dp un gd outer A₀ base h₀ L hp0 gn0 dr0 tk0 os0 Q E B F X N T hd0 hu0 hP hret hexcN hexc
    (try dsimp only at F)
    (repeat' (first | (k_unfold; (try dsimp only)) | (k_end; kc_close) | ((with_reducible show wpAny _ _ (call (Value.ref _) _) _ _ _); first | with_reducible ((first | (k_here; (with_reducible show wpAny _ _ (call (Value.ref 79) [Value.int _ _]) _ _ _); k_dflt (refine' Tel.useS (need_number_i _ _ _ _) ?k1 ?k2 ?k3 ?k4 ?k5 ?k6 ?k7 ?k8 ?kr; tm_at "u1"; skip); (intro h9 tk9 F9 N9)) | (k_here; (with_reducible show wpAny _ _ (call (Value.ref 79) [Value.int _ _]) _ _ _); k_dflt (ktr_call z9 (need_number_i _ _ _ _); skip); walk_at "my_ret")))) | walk1 | (dsimp only; walk1) | (leave1; (try dsimp only)) | fail "no step"))
    all_goals first | exact hret _ _ _ _ (by k_asm) (by k_asm) ⟨rfl, rfl⟩))) only [↓boxed]
theorem need_count_bad (w : World) (x l : Int) (t tl : Tok) (news) (h1 : x < l ∨ 255 < x) : Tel w 93 [.int x t, .int l tl] 6 60 news (fun _ _ => False) (fun k => k = "FC") := by
  refine Box.out ?_
  simp (disch :=
    k_dflt ((
    refine keepP ?_
    walk_at "my_go"
    intro lo mean mg mb dp un gd outer A₀ base h₀ L hp0 gn0 dr0 tk0 os0 Q E B F X N T hd0 hu0 hP hret hexcN hexc
    (try dsimp only at F)
    (repeat' (first | (k_unfold; (try dsimp only)) | (k_end; kc_close) | ((with_reducible show wpAny _ _ (call (Value.ref _) _) _ _ _); first | with_reducible ((first | (k_here; (with_reducible show wpAny _ _ (call (Value.ref 79) [Value.int _ _]) _ _ _); k_dflt (refine' Tel.useS (need_number_i _ _ _ _) ?k1 ?k2 ?k3 ?k4 ?k5 ?k6 ?k7 ?k8 ?kr; tm_at "u1"; skip); (intro h9 tk9 F9 N9)) | (k_here; (with_reducible show wpAny _ _ (call (Value.ref 79) [Value.int _ _]) _ _ _); k_dflt (ktr_call z9 (need_number_i _ _ _ _); skip); walk_at "my_ret")))) | ((with_reducible show wpAny _ _ (exec (Stmt.Raise _ _ _) _) _ _ _); first | with_reducible ((k_here; k_dflt (refine' raise_B ?k1 ?k2 ?k3 ?k4 ?k5 ?k6 ?_; (case k1 => k_asm); (case k2 => k_asm); (case k3 => k_asm); (case k4 => exact rfl); (case k5 => walk_at "my_room"); (case k6 => walk_at "my_units"); k_whole); intro h' e' tk' hm'))) | walk1 | (dsimp only; walk1) | (leave1; (try dsimp only)) | fail "no step"))
    all_goals first | (first | exact hexc _ _ _ _ _ _ rfl (by k_asm) (by k_asm) (by k_asm) (by first | exact fun _ h => h | assumption) | exact hexcN _ _ _ _ _ _ rfl (by k_asm) (by k_asm) (by k_asm) (by first | exact fun _ h => h | assumption))))) only [↓boxed]
theorem need_count_s (w : World) (x : PySem.Str) (l : Int) (t tl : Tok) (news) : Tel w 93 [.str x t, .int l tl] 6 60 news (fun _ _ => False) (fun k => k = "TM") := by
  refine Box.out ?_
  simp (disch :=
    k_dflt ((
    refine keepP ?_
    walk_at "my_go"
    intro lo mean mg mb dp un gd outer A₀ base h₀ L hp0 gn0 dr0 tk0 os0 Q E B F X N T hd0 hu0 hP hret hexcN hexc
    (try dsimp only at F)
    (repeat' (first | (k_unfold; (try dsimp only)) | (k_end; kc_close) | ((with_reducible show wpAny _ _ (call (Value.ref _) _) _ _ _); first | with_reducible ((first | (k_here; (with_reducible show wpAny _ _ (call (Value.ref 79) [Value.str _ _]) _ _ _); k_dflt (refine' Tel.useX (need_number_s _ _ _ _) ?k1 ?k2 ?k3 ?k4 ?k5 ?k6 ?k7 ?k8 ?kr; tm_at "u1"; skip); (intro e9 g9 n9 h9 tk9 F9 U9 R9 hs9)) | (k_here; (with_reducible show wpAny _ _ (call (Value.ref 79) [Value.str _ _]) _ _ _); k_dflt (ktr_call z9 (need_number_s _ _ _ _); skip); (((case kr => exact fun _ _ _ _ _ _ hv9 => (show False from hv9).elim); intro k9 e9 g9 n9 h9 tk9 hk9 F9 U9 R9 hs9; subst hk9; (try dsimp only); (try k_fold))))))) | walk1 | (dsimp only; walk1) | (leave1; (try dsimp only)) | fail "no step"))
    all_goals first | (first | exact hexc _ _ _ _ _ _ rfl (by k_asm) (by k_asm) (by k_asm) (by first | exact fun _ h => h | assumption) | exact hexcN _ _ _ _ _ _ rfl (by k_asm) (by k_asm) (by k_asm) (by first | exact fun _ h => h | assumption))))) only [↓boxed]
theorem fitted_ok (w : World) (x : Int) (t : Tok) (news) (h1 : -32768 ≤ x) (h2 : x ≤ 32767) : Tel w 65 [.int x t] 3 30 news (fun v n => v = .int x t ∧ n = news) (fun _ => False) := by
  refine Box.out ?_
  simp (disch :=
    k_dflt ((
    refine keepP ?_
    walk_at "my_go"
    intro lo mean mg mb dp un gd outer A₀ base h₀ L hp0 gn0 dr0 tk0 os0 Q E B F X N T hd0 hu0 hP hret hexcN hexc
    (try dsimp only at F)
    k_steps
    all_goals first | exact hret _ _ _ _ (by k_asm) (by k_asm) ⟨rfl, rfl⟩))) only [↓boxed]
theorem fitted_bad (w : World) (x : Int) (t : Tok) (news) (h1 : x < -32768 ∨ 32767 < x) : Tel w 65 [.int x t] 3 30 news (fun _ _ => False) (fun k => k = "OV") := by
  refine Box.out ?_
  simp (disch :=
    k_dflt ((
    refine keepP ?_
    walk_at "my_go"
    intro lo mean mg mb dp un gd outer A₀ base h₀ L hp0 gn0 dr0 tk0 os0 Q E B F X N T hd0 hu0 hP hret hexcN hexc
    (try dsimp only at F)
    (repeat' (first | (k_unfold; (try dsimp only)) | (k_end; kc_close) | ((with_reducible show wpAny _ _ (exec (Stmt.Raise _ _ _) _) _ _ _); first | with_reducible ((k_here; k_dflt (refine' raise_B ?k1 ?k2 ?k3 ?k4 ?k5 ?k6 ?_; (case k1 => k_asm); (case k2 => k_asm); (case k3 => k_asm); (case k4 => exact rfl); (case k5 => walk_at "my_room"); (case k6 => walk_at "my_units"); k_whole); intro h' e' tk' hm'))) | walk1 | (dsimp only; walk1) | (leave1; (try dsimp only)) | fail "no step"))
    all_goals first | (first | exact hexc _ _ _ _ _ _ rfl (by k_asm) (by k_asm) (by k_asm) (by first | exact fun _ h => h | assumption) | exact hexcN _ _ _ _ _ _ rfl (by k_asm) (by k_asm) (by k_asm) (by first | exact fun _ h => h | assumption))))) only [↓boxed]
theorem fitted_text_ok (w : World) (x : PySem.Str) (t : Tok) (news) (h1 : x.length ≤ 255) : Tel w 72 [.str x t] 3 30 news (fun v n => v = .str x t ∧ n = news) (fun _ => False) := by
  refine Box.out ?_
  simp (disch :=
    k_dflt ((
    refine keepP ?_
    walk_at "my_go"
    intro lo mean mg mb dp un gd outer A₀ base h₀ L hp0 gn0 dr0 tk0 os0 Q E B F X N T hd0 hu0 hP hret hexcN hexc
    (try dsimp only at F)
    k_steps
    all_goals first | exact hret _ _ _ _ (by k_asm) (by k_asm) ⟨rfl, rfl⟩))) only [↓boxed]
end
local macro_rules | `(tactic| walk_at "ite") => `(tactic| (k_closed; first | refine ite_pos (by decide +kernel) ?_ | refine ite_neg (by decide +kernel) ?_))
section
abbrev listObj (vs : List Value) (n : Nat) : Obj := { cls := .type "list", data := .seq vs.toArray n }
set_option maxHeartbeats 4000000
theorem token_at_in (w : World) (tk : Addr) (n i : Nat) (vs : List Value) (t : Tok) (r : Value) (news) (h1 : (tk, listObj vs n) ∈ news) (hx : vs[i]? = some r) (hi : i < vs.length) (hl : vs.length < 1000) : Tel w 51 [.ref tk, .int (i : Int) t] 3 30 news (fun v n => v = r ∧ n = news) (fun _ => False) := by
  refine Box.out ?_
  simp (disch :=
    k_dflt ((
    refine keepP ?_
    walk_at "my_go"
    intro lo mean mg mb dp un gd outer A₀ base h₀ L hp0 gn0 dr0 tk0 os0 Q E B F X N T hd0 hu0 hP hret hexcN hexc
    (try dsimp only at F)
    (repeat' (first | (k_unfold; (try dsimp only)) | (k_end; kc_close) | ((with_reducible show wpAny _ _ (subscriptTail _ _ _ _) _ _ _); first | with_reducible ((k_here; (with_reducible show wpAny _ _ (subscriptTail _ _ (Value.ref _) (Value.int _ _)) _ _ _); (with_unfolding_all refine' item_list (News.isList ?n ?m) ?h0 ?hf ?hx ?_ ?hs ?hg; (case m => assumption); (case n => k_asm); (case h0 => omega); (case hf => omega); (case hx => simpa using (by assumption)); (case hs => with_unfolding_all rfl); (case hg => intro _; with_unfolding_all rfl); k_whole)))) | ((with_reducible show wpAny _ _ (call (Value.builtin _) _) _ _ _); first | with_reducible ((k_here; (with_reducible show wpAny _ _ (call (Value.builtin _) [Value.ref _]) _ _ _); k_dflt (refine' len_list (News.isList ?n ?m) ?f ?_; (case m => assumption); (case n => k_asm); (case f => (simp only [List.size_toArray]; omega)); k_whole); (try simp only [List.size_toArray])))) | walk1 | (dsimp only; walk1) | (leave1; (try dsimp only)) | fail "no step"))
    all_goals first | exact hret _ _ _ _ (by k_asm) (by k_asm) ⟨rfl, rfl⟩))) only [↓boxed]
theorem token_at_out (w : World) (tk : Addr) (n i : Nat) (vs : List Value) (t : Tok) (news) (h1 : (tk, listObj vs n) ∈ news) (hi : vs.length ≤ i) (hl : vs.length < 1000) : Tel w 51 [.ref tk, .int (i : Int) t] 3 30 news (fun v n => v = .ref 35 ∧ n = news) (fun _ => False) := by
  refine Box.out ?_
  simp (disch :=
    k_dflt ((
    refine keepP ?_
    walk_at "my_go"
    intro lo mean mg mb dp un gd outer A₀ base h₀ L hp0 gn0 dr0 tk0 os0 Q E B F X N T hd0 hu0 hP hret hexcN hexc
    (try dsimp only at F)
    (repeat' (first | (k_unfold; (try dsimp only)) | (k_end; kc_close) | ((with_reducible show wpAny _ _ (call (Value.builtin _) _) _ _ _); first | with_reducible ((k_here; (with_reducible show wpAny _ _ (call (Value.builtin _) [Value.ref _]) _ _ _); k_dflt (refine' len_list (News.isList ?n ?m) ?f ?_; (case m => assumption); (case n => k_asm); (case f => (simp only [List.size_toArray]; omega)); k_whole); (try simp only [List.size_toArray])))) | walk1 | (dsimp only; walk1) | (leave1; (try dsimp only)) | fail "no step"))
    all_goals first | exact hret _ _ _ _ (by k_asm) (by k_asm) ⟨rfl, rfl⟩))) only [↓boxed]
end
section
theorem reads35 {w : World} {h : Heap} (X : (hd.heap_1 w.params).In h) : Reads h (.ref 35) (.tuple [.str "end", .str ""]) [] := by
  have z : PySem.Challenge.rw_pq1455_02 = PySem.Challenge.rw_pq1455_02 := rfl
  revert X z; k_fill; intro X _
  exact reads_tuple_at (X 35 _ (by k_is)) rfl rfl (ReadsAll.cons (Reads.str _ _) (ReadsAll.cons (Reads.str _ _) ReadsAll.nil))
theorem reads36 {w : World} {h : Heap} (X : (hd.heap_1 w.params).In h) : Reads h (.ref 36) (.tuple [.str "=", .str "<>", .str "<", .str ">", .str "<=", .str ">="]) [] := by
  have z : PySem.Challenge.rw_pq1455_02 = PySem.Challenge.rw_pq1455_02 := rfl
  revert X z; k_fill; intro X _
  exact reads_tuple_at (X 36 _ (by k_is)) rfl rfl (by repeat (first | exact ReadsAll.nil | refine ReadsAll.cons (as := []) (bs := []) (Reads.str _ _) ?_))
theorem reads37 {w : World} {h : Heap} (X : (hd.heap_1 w.params).In h) : Reads h (.ref 37) (.tuple [.str "SGN", .str "ABS", .str "LEN", .str "STR$", .str "VAL", .str "ASC", .str "CHR$", .str "LEFT$", .str "RIGHT$", .str "MID$", .str "RND", .str "INSTR"]) [] := by
  have z : PySem.Challenge.rw_pq1455_02 = PySem.Challenge.rw_pq1455_02 := rfl
  revert X z; k_fill; intro X _
  exact reads_tuple_at (X 37 _ (by k_is)) rfl rfl (by repeat (first | exact ReadsAll.nil | refine ReadsAll.cons (as := []) (bs := []) (Reads.str _ _) ?_))
theorem shaped_ss {x y : PySem.Str} (hx : PyData.strOk x = true) (hy : PyData.strOk y = true) : SeqAt.shaped (.tuple [.str x, .str y]) = true := by
  simp [SeqAt.shaped, PyData.canLay0, PyData.canLayAll0, PyData.depth, PyData.depthAll, hx, hy]
theorem shaped_si {x : PySem.Str} {y : Int} (hx : PyData.strOk x = true) : SeqAt.shaped (.tuple [.str x, .int y]) = true := by
  simp [SeqAt.shaped, PyData.canLay0, PyData.canLayAll0, PyData.depth, PyData.depthAll, hx]
theorem lay_s {x : PySem.Str} (hx : PyData.strOk x = true) : (PyData.str x).canLay0 = true := hx
local macro_rules | `(tactic| walk_at "my_read") => `(tactic| first
  | exact Reads.int _ _
  | exact Reads.str _ _
  | exact Reads.bool _
  | exact Reads.none
  | exact reads_tuple_at (News.get (by k_asm) (by tm_at "mem")) (by exact rfl) (by exact rfl) (by walk_at "my_reads")
  | exact Reads.keeps (Fr.keep (by k_asm)) (reads35 (by k_asm))
  | exact Reads.keeps (Fr.keep (by k_asm)) (reads36 (by k_asm))
  | exact Reads.keeps (Fr.keep (by k_asm)) (reads37 (by k_asm))
  | fail "my_read")
local macro_rules | `(tactic| walk_at "my_reads") => `(tactic| first
  | exact ReadsAll.nil
  | exact ReadsAll.cons (by walk_at "my_read") (by walk_at "my_reads")
  | fail "my_reads")
set_option maxHeartbeats 4000000
theorem expect_ok (w : World) (tk a : Addr) (n n2 i : Nat) (vs : List Value) (t t1 t2 t3 : Tok) (x : PySem.Str) (hok : PyData.strOk x = true) (news) (h1 : (tk, listObj vs n) ∈ news) (hx : vs[i]? = some (.ref a)) (hi : i < vs.length) (hl : vs.length < 1000) (ha : (a, ({ cls := .type "tuple", data := .seq #[.str "sign" t1, .str x t2] n2 } : Obj)) ∈ news) : Tel w 58 [.ref tk, .int (i : Int) t, .str x t3] 6 60 news (fun v n => ∃ t, v = .int ((i + 1 : Nat) : Int) t ∧ n = news) (fun _ => False) := by
  refine Box.out ?_
  simp (disch :=
    k_dflt ((
    refine keepP ?_
    walk_at "my_go"
    intro lo mean mg mb dp un gd outer A₀ base h₀ L hp0 gn0 dr0 tk0 os0 Q E B F X N T hd0 hu0 hP hret hexcN hexc
    (try dsimp only at F)
    (repeat' (first | (k_unfold; (try dsimp only)) | (k_end; kc_close) | ((with_reducible show wpAny _ _ (binaryOp Operator.Add _ _) _ _ _); with_reducible (with_reducible refine add_nat1 ?_)) | ((with_reducible show wpAny _ _ (call (Value.ref _) _) _ _ _); first | with_reducible ((first | (k_here; (with_reducible show wpAny _ _ (call (Value.ref 51) [Value.ref _, Value.int _ _]) _ _ _); k_dflt (refine' Tel.useS (token_at_in _ _ _ _ _ _ _ _ ?p1 ?p2 ?p3 ?p4) ?k1 ?k2 ?k3 ?k4 ?k5 ?k6 ?k7 ?k8 ?kr; tm_at "u1"; (case p1 => assumption); (case p2 => assumption); (case p3 => omega); (case p4 => omega); skip); (intro h9 tk9 F9 N9)) | (k_here; (with_reducible show wpAny _ _ (call (Value.ref 51) [Value.ref _, Value.int _ _]) _ _ _); k_dflt (ktr_call z9 (token_at_in _ _ _ _ _ _ _ _ ?p1 ?p2 ?p3 ?p4); (case p1 => assumption); (case p2 => assumption); (case p3 => omega); (case p4 => omega); skip); walk_at "my_ret")))) | ((with_reducible show wpAny _ _ (compareOp CmpOp.NotEq _ _) _ _ _); first | with_reducible ((k_here; (with_reducible show wpAny _ _ (compareOp CmpOp.NotEq (Value.ref _) (Value.ref _)) _ _ _); k_dflt (refine ne_dataH (by walk_at "my_read") (by walk_at "my_read") (by (first | rfl | decide +kernel | exact shaped_ss (by (first | assumption | decide +kernel)) (by (first | assumption | decide +kernel)) | exact shaped_si (by (first | assumption | decide +kernel)))) (by (first | rfl | decide +kernel | exact shaped_ss (by (first | assumption | decide +kernel)) (by (first | assumption | decide +kernel)) | exact shaped_si (by (first | assumption | decide +kernel)))) (by (((have hcL9 := cLine_is); (try simp only [units_in1, units_deeper, Around.mark_units, units_caller]); (try dsimp only [ktrTop]); first | omega | decide))) ?_); (((try simp only [PyData.eqv, PyData.eqvAll, List.any_cons, List.any_nil, eq_self, beq_self_eq_true, decide_true, Bool.and_true, Bool.true_and, Bool.and_false, Bool.false_and, Bool.or_false, Bool.false_or, Bool.not_true, Bool.not_false, Bool.true_or, Bool.or_true])))))) | walk1 | (dsimp only; walk1) | (leave1; (try dsimp only)) | fail "no step"))
    all_goals first | exact hret _ news _ _ (by k_asm) (by walk_at "my_drop") ⟨_, rfl, rfl⟩ | w_report))) only [↓boxed]
theorem level_sep (w : World) (a : Addr) (n2 : Nat) (t1 t2 : Tok) (x : PySem.Str) (hx : x = "," ∨ x = ")") (news) (ha : (a, ({ cls := .type "tuple", data := .seq #[.str "sign" t1, .str x t2] n2 } : Obj)) ∈ news) : Tel w 135 [.ref a] 6 60 news (fun v n => ∃ t, v = .int 0 t ∧ n = news) (fun _ => False) := by
  refine Box.out ?_
  simp (disch :=
    k_dflt ((
    refine keepP ?_
    intro lo mean mg mb dp un gd cn cs a0 ccd cl outer A₀ base h₀ L m s Q E B F X N T hk hd0 hu0 hret hexc
    rcases hx with rfl | rfl
    all_goals (first | (((rename Frag.In _ _ => X9; revert X9; k_fill; intro X9); have hlim := lim_is; refine wpAny_call ?_; k_dflt cell_enter; (try ((rename Fr _ _ _ _ => F9; simp (decide := true) only [List.map_cons, List.map_nil, List.nil_append, List.append_nil, List.filterMap_cons, List.filterMap_nil, lookup_if, List.lookup_nil, Option.map_some, Option.map_none, if_true, if_false, List.zip_cons_cons, List.zip_nil_left, List.zip_nil_right, List.reverse_cons, List.reverse_nil, List.cons_append] at F9))))) | (((rename Frag.In _ _ => X9; revert X9; k_fill; intro X9); have hlim := lim_is; refine wpAny_call ?_; k_dflt cell_enter)))
    (repeat' (first | (k_unfold; (try dsimp only)) | (k_end; kc_close) | ((with_reducible show wpAny _ _ (compareOp CmpOp.In _ _) _ _ _); first | with_reducible ((k_here; (with_reducible show wpAny _ _ (compareOp CmpOp.In _ (Value.ref _)) _ _ _); k_dflt (refine SeqAt.in_tuple_reads (by walk_at "my_read") (by walk_at "my_read") (by (first | rfl | decide +kernel | exact lay_s (by assumption) | exact shaped_ok (by (first | rfl | decide +kernel | exact shaped_ss (by (first | assumption | decide +kernel)) (by (first | assumption | decide +kernel)) | exact shaped_si (by (first | assumption | decide +kernel)))))) (by (first | rfl | decide +kernel | exact lay_s (by assumption) | exact shaped_ok (by (first | rfl | decide +kernel | exact shaped_ss (by (first | assumption | decide +kernel)) (by (first | assumption | decide +kernel)) | exact shaped_si (by (first | assumption | decide +kernel)))))) (by (simp only [PyData.depth, PyData.depthAll]; (((have hcL9 := cLine_is); (try simp only [units_in1, units_deeper, Around.mark_units, units_caller]); (try dsimp only [ktrTop]); first | omega | decide)))) ?_); (((try simp only [PyData.eqv, PyData.eqvAll, List.any_cons, List.any_nil, eq_self, beq_self_eq_true, decide_true, Bool.and_true, Bool.true_and, Bool.and_false, Bool.false_and, Bool.or_false, Bool.false_or, Bool.not_true, Bool.not_false, Bool.true_or, Bool.or_true])))))) | walk1 | (dsimp only; walk1) | (leave1; (try dsimp only)) | fail "no step"))
    all_goals first | exact hret _ news _ _ (by k_asm) (by walk_at "my_drop") ⟨_, rfl, rfl⟩ | w_report))) only [↓boxed]
end
local macro_rules | `(tactic| walk_at "my_read") => `(tactic| first
  | exact Reads.int _ _
  | exact Reads.str _ _
  | exact Reads.bool _
  | exact Reads.none
  | exact reads_tuple_at (News.get (by k_asm) (by tm_at "mem")) (by exact rfl) (by exact rfl) (by walk_at "my_reads")
  | exact Reads.keeps (Fr.keep (by k_asm)) (reads35 (by k_asm))
  | exact Reads.keeps (Fr.keep (by k_asm)) (reads36 (by k_asm))
  | exact Reads.keeps (Fr.keep (by k_asm)) (reads37 (by k_asm))
  | fail "my_read")
local macro_rules | `(tactic| walk_at "my_reads") => `(tactic| first
  | exact ReadsAll.nil
  | exact ReadsAll.cons (by walk_at "my_read") (by walk_at "my_reads")
  | fail "my_reads")
section
abbrev pairObj (v : Value) (j : Nat) (t : Tok) (k : Nat) : Obj := { cls := .type "tuple", data := .seq #[v, .int (j : Int) t] k }
noncomputable def IsI (x : Int) (v : Value) : Prop := ∃ t, v = .int x t
noncomputable def IsS (x : PySem.Str) (v : Value) : Prop := ∃ t, v = .str x t
noncomputable def RetPair (P : Value → Prop) (j : Nat) (news : List (Addr × Obj)) (v : Value) (n : List (Addr × Obj)) : Prop :=
  ∃ a t k w, v = .ref a ∧ (∀ p ∈ news, p.1 < a) ∧ P w ∧ n = (a, pairObj w j t k) :: news
abbrev tok2 (kind : PySem.Str) (t1 : Tok) (v : Value) (k : Nat) : Obj := { cls := .type "tuple", data := .seq #[.str kind t1, v] k }
theorem pair_cast {h₀ h : Heap} {L a : Addr} {v : Value} {i k : Nat} {t : Tok} {news : List (Addr × Obj)} (N : News h₀ L h ((a, { cls := .type "tuple", data := .seq #[v, .int ((i : Int) + 1) t] k }) :: news)) : News h₀ L h ((a, pairObj v (i + 1) t k) :: news) := by
  have e : (((i + 1 : Nat) : Int)) = (i : Int) + 1 := by omega
  unfold pairObj
  rw [e]
  exact N
theorem allLt_mem {d : Nat} (l : List (Addr × Obj)) : AllLt d l → ∀ p ∈ l, p.1 < d := by
  induction l with
  | nil => intro _ p hp; cases hp
  | cons x r ih =>
    intro h p hp
    cases hp with
    | head => exact h.1
    | tail _ hp => exact ih h.2 p hp
theorem below2 {a d : Nat} {l : List (Addr × Obj)} (h : a < d ∧ AllLt d l) : ∀ p ∈ l, p.1 < d := allLt_mem l h.2
theorem drop2 {h₀ h : Heap} {L : Addr} {x y : Addr × Obj} {news : List (Addr × Obj)} (N : News h₀ L h (x :: y :: news)) : News h₀ L h (x :: news) := fun p hp => N p (by
  rcases List.mem_cons.mp hp with e | hp
  · exact e ▸ .head _
  · exact .tail _ (.tail _ hp))
theorem dropx {h₀ h : Heap} {L : Addr} {x : Addr × Obj} {news l : List (Addr × Obj)} (N : News h₀ L h (x :: l)) (hs : ∀ p ∈ news, p ∈ l) : News h₀ L h (x :: news) := fun p hp => N p (by
  rcases List.mem_cons.mp hp with e | hp
  · exact e ▸ .head _
  · exact .tail _ (hs p hp))
set_option maxHeartbeats 4000000
theorem first_num (w : World) (tk ta st : Addr) (n i n2 : Nat) (vs : List Value) (t t0 t1 t2 : Tok) (dep : Int) (x : Int) (hx1 : -32768 ≤ x) (hx2 : x ≤ 32767) (news) (h1 : (tk, listObj vs n) ∈ news) (hx : vs[i]? = some (.ref ta)) (hi : i < vs.length) (hl : vs.length < 1000) (hdep : dep ≤ 40) (ha : (ta, tok2 "number" t1 (.int x t2) n2) ∈ news) : Tel w 217 [.ref tk, .int (i : Int) t, .ref st, .int dep t0] 6 60 news (RetPair (IsI x) (i+1) news) (fun _ => False) := by
  refine Box.out ?_
  simp (disch :=
    k_dflt ((
    refine keepP ?_
    walk_at "my_go"
    intro lo mean mg mb dp un gd outer A₀ base h₀ L hp0 gn0 dr0 tk0 os0 Q E B F X N T hd0 hu0 hP hret hexcN hexc
    (try dsimp only at F)
    (repeat' (first | (k_unfold; (try dsimp only)) | (k_end; kc_close) | ((with_reducible show wpAny _ _ (eval (Expr.Call _ _ _ _) _) _ _ _); with_reducible ((k_here; kcj_call; walk_say "WAYS MEET"))) | ((with_reducible show wpAny _ _ (binaryOp Operator.Add _ _) _ _ _); with_reducible (with_reducible refine add_nat1 ?_)) | ((with_reducible show wpAny _ _ (call (Value.ref _) _) _ _ _); first | with_reducible ((first | (k_here; (with_reducible show wpAny _ _ (call (Value.ref 51) [Value.ref _, Value.int _ _]) _ _ _); k_dflt (refine' Tel.useS (token_at_in _ _ _ _ _ _ _ _ ?p1 ?p2 ?p3 ?p4) ?k1 ?k2 ?k3 ?k4 ?k5 ?k6 ?k7 ?k8 ?kr; tm_at "u1"; (case p1 => tm_at "mem"); (case p2 => assumption); (case p3 => omega); (case p4 => omega); skip); (intro h9 tk9 F9 N9)) | (k_here; (with_reducible show wpAny _ _ (call (Value.ref 51) [Value.ref _, Value.int _ _]) _ _ _); k_dflt (ktr_call z9 (token_at_in _ _ _ _ _ _ _ _ ?p1 ?p2 ?p3 ?p4); (case p1 => tm_at "mem"); (case p2 => assumption); (case p3 => omega); (case p4 => omega); skip); walk_at "my_ret"))) | with_reducible ((first | (k_here; (with_reducible show wpAny _ _ (call (Value.ref 65) [Value.int _ _]) _ _ _); k_dflt (refine' Tel.useS (fitted_ok _ _ _ _ ?p1 ?p2) ?k1 ?k2 ?k3 ?k4 ?k5 ?k6 ?k7 ?k8 ?kr; tm_at "u1"; (case p1 => omega); (case p2 => omega); skip); (intro h9 tk9 F9 N9)) | (k_here; (with_reducible show wpAny _ _ (call (Value.ref 65) [Value.int _ _]) _ _ _); k_dflt (ktr_call z9 (fitted_ok _ _ _ _ ?p1 ?p2); (case p1 => omega); (case p2 => omega); skip); walk_at "my_ret")))) | walk1 | (dsimp only; walk1) | (leave1; (try dsimp only)) | fail "no step"))
    all_goals first | exact hret _ _ _ _ (by k_asm) (by k_asm) ⟨_, _, _, _, rfl, by k_asm, ⟨_, rfl⟩, rfl⟩))) only [↓boxed]
theorem first_text (w : World) (tk ta st : Addr) (n i n2 : Nat) (vs : List Value) (t t0 t1 t2 : Tok) (dep : Int) (x : PySem.Str) (hx1 : x.length ≤ 255) (news) (h1 : (tk, listObj vs n) ∈ news) (hx : vs[i]? = some (.ref ta)) (hi : i < vs.length) (hl : vs.length < 1000) (hdep : dep ≤ 40) (ha : (ta, tok2 "text" t1 (.str x t2) n2) ∈ news) : Tel w 217 [.ref tk, .int (i : Int) t, .ref st, .int dep t0] 6 60 news (RetPair (IsS x) (i+1) news) (fun _ => False) := by
  refine Box.out ?_
  simp (disch :=
    k_dflt ((
    refine keepP ?_
    walk_at "my_go"
    intro lo mean mg mb dp un gd outer A₀ base h₀ L hp0 gn0 dr0 tk0 os0 Q E B F X N T hd0 hu0 hP hret hexcN hexc
    (try dsimp only at F)
    (repeat' (first | (k_unfold; (try dsimp only)) | (k_end; kc_close) | ((with_reducible show wpAny _ _ (binaryOp Operator.Add _ _) _ _ _); with_reducible (with_reducible refine add_nat1 ?_)) | ((with_reducible show wpAny _ _ (call (Value.ref _) _) _ _ _); first | with_reducible ((first | (k_here; (with_reducible show wpAny _ _ (call (Value.ref 51) [Value.ref _, Value.int _ _]) _ _ _); k_dflt (refine' Tel.useS (token_at_in _ _ _ _ _ _ _ _ ?p1 ?p2 ?p3 ?p4) ?k1 ?k2 ?k3 ?k4 ?k5 ?k6 ?k7 ?k8 ?kr; tm_at "u1"; (case p1 => tm_at "mem"); (case p2 => assumption); (case p3 => omega); (case p4 => omega); skip); (intro h9 tk9 F9 N9)) | (k_here; (with_reducible show wpAny _ _ (call (Value.ref 51) [Value.ref _, Value.int _ _]) _ _ _); k_dflt (ktr_call z9 (token_at_in _ _ _ _ _ _ _ _ ?p1 ?p2 ?p3 ?p4); (case p1 => tm_at "mem"); (case p2 => assumption); (case p3 => omega); (case p4 => omega); skip); walk_at "my_ret"))) | with_reducible ((first | (k_here; (with_reducible show wpAny _ _ (call (Value.ref 72) [Value.str _ _]) _ _ _); k_dflt (refine' Tel.useS (fitted_text_ok _ _ _ _ ?p1) ?k1 ?k2 ?k3 ?k4 ?k5 ?k6 ?k7 ?k8 ?kr; tm_at "u1"; (case p1 => omega); skip); (intro h9 tk9 F9 N9)) | (k_here; (with_reducible show wpAny _ _ (call (Value.ref 72) [Value.str _ _]) _ _ _); k_dflt (ktr_call z9 (fitted_text_ok _ _ _ _ ?p1); (case p1 => omega); skip); walk_at "my_ret")))) | walk1 | (dsimp only; walk1) | (leave1; (try dsimp only)) | fail "no step"))
    all_goals first | exact hret _ _ _ _ (by k_asm) (by k_asm) ⟨_, _, _, _, rfl, by k_asm, ⟨_, rfl⟩, rfl⟩))) only [↓boxed]
theorem bound_of (w : World) (d u : Nat) (tk tc st : Addr) (n i j n2 : Nat) (vs : List Value) (t t0 t5 t1 t2 : Tok) (dep lev : Int) (P : Value → Prop) (xs : PySem.Str) (news) (h1 : (tk, listObj vs n) ∈ news) (hl : vs.length < 1000) (hlev : 0 < lev) (hj : j < vs.length) (hx : vs[j]? = some (.ref tc)) (hxs : xs = "," ∨ xs = ")") (hc : (tc, tok2 "sign" t1 (.str xs t2) n2) ∈ news) (hF : Tel w 217 [.ref tk, .int (i : Int) t, .ref st, .int dep t0] d u news (RetPair P j news) (fun _ => False)) : Tel w 224 [.ref tk, .int (i : Int) t, .int lev t5, .ref st, .int dep t0] (d + 10) (u + 100) news (RetPair P j news) (fun _ => False) := by
  refine Box.out ?_
  simp (disch :=
    k_dflt ((
    refine keepP ?_
    walk_at "my_go"
    intro lo mean mg mb dp un gd outer A₀ base h₀ L hp0 gn0 dr0 tk0 os0 Q E B F X N T hd0 hu0 hP hret hexcN hexc
    (try dsimp only at F)
    (repeat' (first | (k_unfold; (try dsimp only)) | (k_end; kc_close) | ((with_reducible show wpAny _ _ (exec (Stmt.While _ _ _ _) _) _ _ _); with_reducible ((k_here; k_dflt (refine whl_start 3 ?_)))) | ((with_reducible show wpAny _ _ (isTrue _ _ _) _ _ _); with_reducible ((k_here; first | (with_reducible refine' cmpNI ?F ?e ?v ?_ ?m ?k ?x ?d; k_dflt (tm_at "c1"; (case m => exact rfl); tm_at "c2")) | (with_reducible refine' cmpNN ?F ?e ?v ?v' ?_ ?m ?k ?x ?d ?x' ?d'; k_dflt (tm_at "c1"; tm_at "c3"; (case m => exact rfl); tm_at "c2"))))) | ((with_reducible show wpAny _ _ (call (Value.ref _) _) _ _ _); first | ((k_here; (with_reducible show wpAny _ _ (call (Value.ref 217) [Value.ref _, Value.int _ _, Value.ref _, Value.int _ _]) _ _ _); k_dflt (ktr_call z9 ((show Tel _ _ _ _ _ _ _ _ from by assumption)); skip); (((case ke => exact fun _ _ _ _ _ _ hk9 => (show False from hk9).elim); intro v9 n9 h9 tk9 F9 N9 hv9; obtain ⟨a9, t9, k9, w9, e1, l9, p9, e2⟩ := hv9; subst e1; replace e2 := e2.symm; subst e2; (try dsimp only); (try k_fold))))) | with_reducible ((k_here; (with_reducible show wpAny _ _ (call (Value.ref 135) [Value.ref _]) _ _ _); k_dflt (ktr_call z9 (level_sep _ _ _ _ _ _ ?p1 _ ?p2); (case p1 => first | assumption | exact Or.inl rfl | exact Or.inr rfl); (case p2 => tm_at "mem"); skip); (((case ke => exact fun _ _ _ _ _ _ hk9 => (show False from hk9).elim); intro v9 n9 h9 tk9 F9 N9 hv9; obtain ⟨t9, e1, e2⟩ := hv9; subst e1; replace e2 := e2.symm; subst e2; (try dsimp only); (try k_fold))))) | with_reducible ((first | (k_here; (with_reducible show wpAny _ _ (call (Value.ref 51) [Value.ref _, Value.int _ _]) _ _ _); k_dflt (refine' Tel.useS (token_at_in _ _ _ _ _ _ _ _ ?p1 ?p2 ?p3 ?p4) ?k1 ?k2 ?k3 ?k4 ?k5 ?k6 ?k7 ?k8 ?kr; tm_at "u1"; (case p1 => tm_at "mem"); (case p2 => assumption); (case p3 => omega); (case p4 => omega); skip); (intro h9 tk9 F9 N9)) | (k_here; (with_reducible show wpAny _ _ (call (Value.ref 51) [Value.ref _, Value.int _ _]) _ _ _); k_dflt (ktr_call z9 (token_at_in _ _ _ _ _ _ _ _ ?p1 ?p2 ?p3 ?p4); (case p1 => tm_at "mem"); (case p2 => assumption); (case p3 => omega); (case p4 => omega); skip); walk_at "my_ret")))) | walk1 | (dsimp only; walk1) | (leave1; (try dsimp only)) | fail "no step"))
    all_goals first | exact hret _ ((_, pairObj _ j _ _) :: news) _ _ (by k_asm) (drop2 (by k_asm)) ⟨_, _, _, _, rfl, below2 (by assumption), by assumption, rfl⟩))) only [↓boxed]
end
local macro_rules | `(tactic| walk_at "my_subs") => `(tactic| first | exact fun _ h => h | assumption | (intro p9 hp9; simp only [List.mem_cons, List.mem_append, hp9, or_true, true_or]) | (intro p9 hp9; (rename (∀ p ∈ _, p ∈ _) => hs9); simp only [List.mem_cons, List.mem_append, hs9 p9 hp9, or_true, true_or]))
section
set_option maxHeartbeats 4000000
theorem turned_num (w : World) (tk ta st : Addr) (n i j n2 : Nat) (vs : List Value) (t t0 t1 t2 : Tok) (dep : Int) (x : Int) (hx1 : -32767 ≤ x) (hx2 : x ≤ 32767) (news) (h1 : (tk, listObj vs n) ∈ news) (hx : vs[i]? = some (.ref ta)) (hi : i < vs.length) (hl : vs.length < 1000) (ha : (ta, tok2 "sign" t1 (.str "-" t2) n2) ∈ news) (hB : ∀ t t7 t0, Tel w 224 [.ref tk, .int ((i + 1 : Nat) : Int) t, .int 7 t7, .ref st, .int (dep + 1) t0] 25 250 news (RetPair (IsI x) j news) (fun _ => False))  : Tel w 210 [.ref tk, .int (i : Int) t, .ref st, .int dep t0] 30 300 news (RetPair (IsI (-x)) j news) (fun _ => False) := by
  refine Box.out ?_
  simp (disch :=
    k_dflt ((
    refine keepP ?_
    walk_at "my_go"
    intro lo mean mg mb dp un gd outer A₀ base h₀ L hp0 gn0 dr0 tk0 os0 Q E B F X N T hd0 hu0 hP hret hexcN hexc
    (try dsimp only at F)
    (repeat' (first | (k_unfold; (try dsimp only)) | (k_end; kc_close) | ((with_reducible show wpAny _ _ (isTrue _ _ _) _ _ _); with_reducible ((k_here; (first | with_reducible refine' isEqS (b := true) ?F ?e ?v ?b ?_ ?k ?x ?d | with_reducible refine' isNeS (b := true) ?F ?e ?v ?b ?_ ?k ?x ?d); k_dflt (tm_at "c1"; (case b => decide +kernel); tm_at "c2")))) | ((with_reducible show wpAny _ _ (eval (Expr.Call _ _ _ _) _) _ _ _); with_reducible ((k_here; kcj_call; walk_say "WAYS MEET"))) | ((with_reducible show wpAny _ _ (binaryOp Operator.Add _ _) _ _ _); with_reducible (with_reducible refine add_nat1 ?_)) | ((with_reducible show wpAny _ _ (call (Value.ref _) _) _ _ _); first | ((k_here; (with_reducible show wpAny _ _ (call (Value.ref 224) [Value.ref _, Value.int _ _, Value.int _ _, Value.ref _, Value.int _ _]) _ _ _); k_dflt ((rename (∀ t t7 t0, Tel _ 224 _ _ _ _ _ _) => hB9); ktr_call z9 (hB9 _ _ _)); (((case ke => exact fun _ _ _ _ _ _ hk9 => (show False from hk9).elim); intro v9 n9 h9 tk9 F9 N9 hv9; obtain ⟨a9, t9, k9, w9, e1, l9, p9, e2⟩ := hv9; subst e1; replace e2 := e2.symm; subst e2; obtain ⟨tw9, ew9⟩ := p9; subst ew9; (try dsimp only); (try k_fold))))) | with_reducible ((first | (k_here; (with_reducible show wpAny _ _ (call (Value.ref 65) [Value.int _ _]) _ _ _); k_dflt (refine' Tel.useS (fitted_ok _ _ _ _ ?p1 ?p2) ?k1 ?k2 ?k3 ?k4 ?k5 ?k6 ?k7 ?k8 ?kr; tm_at "u1"; (case p1 => omega); (case p2 => omega); skip); (intro h9 tk9 F9 N9)) | (k_here; (with_reducible show wpAny _ _ (call (Value.ref 65) [Value.int _ _]) _ _ _); k_dflt (ktr_call z9 (fitted_ok _ _ _ _ ?p1 ?p2); (case p1 => omega); (case p2 => omega); skip); walk_at "my_ret"))) | with_reducible ((first | (k_here; (with_reducible show wpAny _ _ (call (Value.ref 79) [Value.int _ _]) _ _ _); k_dflt (refine' Tel.useS (need_number_i _ _ _ _) ?k1 ?k2 ?k3 ?k4 ?k5 ?k6 ?k7 ?k8 ?kr; tm_at "u1"; skip); (intro h9 tk9 F9 N9)) | (k_here; (with_reducible show wpAny _ _ (call (Value.ref 79) [Value.int _ _]) _ _ _); k_dflt (ktr_call z9 (need_number_i _ _ _ _); skip); walk_at "my_ret")))) | ((with_reducible show wpAny _ _ (subscriptTail _ _ _ _) _ _ _); first | with_reducible ((k_here; (with_reducible show wpAny _ _ (subscriptTail _ _ (Value.ref _) (Value.int _ _)) _ _ _); (with_unfolding_all refine' item_list (News.isList ?n ?m) ?h0 ?hf ?hx ?_ ?hs ?hg; (case n => k_asm); (case m => tm_at "mem"); (case h0 => omega); (case hf => omega); (case hx => (simp only [List.getElem?_toArray, Int.toNat_natCast]; assumption)); (case hs => with_unfolding_all rfl); (case hg => intro _; with_unfolding_all rfl); k_whole)))) | walk1 | (dsimp only; walk1) | (leave1; (try dsimp only)) | fail "no step"))
    all_goals first | exact hret _ ((_, pairObj _ j _ _) :: news) _ _ (by k_asm) (drop2 (by k_asm)) ⟨_, _, _, _, rfl, below2 (by assumption), ⟨_, rfl⟩, rfl⟩ | w_report))) only [↓boxed]
theorem first_minus (w : World) (tk ta st : Addr) (n i j n2 : Nat) (vs : List Value) (t t0 t1 t2 : Tok) (dep : Int) (x : Int) (hx1 : -32767 ≤ x) (hx2 : x ≤ 32767) (news) (h1 : (tk, listObj vs n) ∈ news) (hx : vs[i]? = some (.ref ta)) (hi : i < vs.length) (hl : vs.length < 1000) (ha : (ta, tok2 "sign" t1 (.str "-" t2) n2) ∈ news) (hdep : dep ≤ 39) (hB : ∀ news2 t t7 t0, (∀ p ∈ news, p ∈ news2) → Tel w 224 [.ref tk, .int ((i + 1 : Nat) : Int) t, .int 7 t7, .ref st, .int (dep + 1) t0] 25 250 news2 (RetPair (IsI x) j news2) (fun _ => False))  : Tel w 217 [.ref tk, .int (i : Int) t, .ref st, .int dep t0] 35 350 news (RetPair (IsI (-x)) j news) (fun _ => False) := by
  refine Box.out ?_
  simp (disch :=
    k_dflt ((
    refine keepP ?_
    walk_at "my_go"
    intro lo mean mg mb dp un gd outer A₀ base h₀ L hp0 gn0 dr0 tk0 os0 Q E B F X N T hd0 hu0 hP hret hexcN hexc
    (try dsimp only at F)
    (repeat' (first | (k_unfold; (try dsimp only)) | (k_end; kc_close) | ((with_reducible show wpAny _ _ (isTrue _ _ _) _ _ _); with_reducible ((k_here; (first | with_reducible refine' isEqS (b := false) ?F ?e ?v ?b ?_ ?k ?x ?d | with_reducible refine' isNeS (b := false) ?F ?e ?v ?b ?_ ?k ?x ?d); k_dflt (tm_at "c1"; (case b => decide +kernel); tm_at "c2")))) | ((with_reducible show wpAny _ _ (call (Value.ref _) _) _ _ _); first | ((k_here; (with_reducible show wpAny _ _ (call (Value.ref 210) [Value.ref _, Value.int _ _, Value.ref _, Value.int _ _]) _ _ _); k_dflt (ktr_call z9 (turned_num _ _ _ _ _ _ _ _ _ _ _ _ _ _ _ ?p1 ?p2 _ ?p3 ?p4 ?p5 ?p6 ?p7 ?p8); (case p1 => assumption); (case p2 => assumption); (case p3 => tm_at "mem"); (case p4 => assumption); (case p5 => omega); (case p6 => omega); (case p7 => tm_at "mem"); (case p8 => (intro _ _ _; (rename (∀ news2 t t7 t0, _ → Tel _ 224 _ _ _ _ _ _) => hB9); refine hB9 _ _ _ _ ?_; walk_at "my_subs")); skip); (((case ke => exact fun _ _ _ _ _ _ hk9 => (show False from hk9).elim); intro v9 n9 h9 tk9 F9 N9 hv9; obtain ⟨a9, t9, k9, w9, e1, l9, p9, e2⟩ := hv9; subst e1; replace e2 := e2.symm; subst e2; obtain ⟨tw9, ew9⟩ := p9; subst ew9; (try dsimp only); (try k_fold))))) | with_reducible ((first | (k_here; (with_reducible show wpAny _ _ (call (Value.ref 51) [Value.ref _, Value.int _ _]) _ _ _); k_dflt (refine' Tel.useS (token_at_in _ _ _ _ _ _ _ _ ?p1 ?p2 ?p3 ?p4) ?k1 ?k2 ?k3 ?k4 ?k5 ?k6 ?k7 ?k8 ?kr; tm_at "u1"; (case p1 => tm_at "mem"); (case p2 => assumption); (case p3 => omega); (case p4 => omega); skip); (intro h9 tk9 F9 N9)) | (k_here; (with_reducible show wpAny _ _ (call (Value.ref 51) [Value.ref _, Value.int _ _]) _ _ _); k_dflt (ktr_call z9 (token_at_in _ _ _ _ _ _ _ _ ?p1 ?p2 ?p3 ?p4); (case p1 => tm_at "mem"); (case p2 => assumption); (case p3 => omega); (case p4 => omega); skip); walk_at "my_ret")))) | ((with_reducible show wpAny _ _ (compareOp CmpOp.In _ _) _ _ _); first | with_reducible ((k_here; (with_reducible show wpAny _ _ (compareOp CmpOp.In _ (Value.ref _)) _ _ _); k_dflt (refine SeqAt.in_tuple_reads (by walk_at "my_read") (by walk_at "my_read") (by (first | rfl | decide +kernel | exact lay_s (by assumption) | exact shaped_ok (by (first | rfl | decide +kernel | exact shaped_ss (by (first | assumption | decide +kernel)) (by (first | assumption | decide +kernel)) | exact shaped_si (by (first | assumption | decide +kernel)))))) (by (first | rfl | decide +kernel | exact lay_s (by assumption) | exact shaped_ok (by (first | rfl | decide +kernel | exact shaped_ss (by (first | assumption | decide +kernel)) (by (first | assumption | decide +kernel)) | exact shaped_si (by (first | assumption | decide +kernel)))))) (by (simp only [PyData.depth, PyData.depthAll]; (((have hcL9 := cLine_is); (try simp only [units_in1, units_deeper, Around.mark_units, units_caller]); (try dsimp only [ktrTop]); first | omega | decide)))) ?_); (((try simp only [PyData.eqv, PyData.eqvAll, List.any_cons, List.any_nil, eq_self, beq_self_eq_true, decide_true, Bool.and_true, Bool.true_and, Bool.and_false, Bool.false_and, Bool.or_false, Bool.false_or, Bool.not_true, Bool.not_false, Bool.true_or, Bool.or_true])))))) | walk1 | (dsimp only; walk1) | (leave1; (try dsimp only)) | fail "no step"))
    all_goals first | exact hret _ ((_, pairObj _ j _ _) :: news) _ _ (by k_asm) (dropx (by k_asm) (by walk_at "my_subs")) ⟨_, _, _, _, rfl, (by first | k_asm | exact below2 (by assumption) | (intro p9 hp9; (rename (∀ p ∈ _, Prod.fst p < _) => l9x); exact l9x p9 (by first | exact hp9 | simp only [List.mem_cons, hp9, or_true]))), ⟨_, rfl⟩, rfl⟩ | w_report))) only [↓boxed]
end
section
inductive Dv where
  | n (x : Int)
  | s (x : PySem.Str)
noncomputable def Dv.Ok : Dv → Prop
  | .n x => -32767 ≤ x ∧ x ≤ 32767
  | .s x => x.length ≤ 255 ∧ PyData.strOk x = true
noncomputable def IsD : Dv → Value → Prop
  | .n x => IsI x
  | .s x => IsS x
abbrev Tk := PySem.Str × Dv
abbrev mkT (k : PySem.Str) (d : Dv) : Tk := (k, d)
noncomputable def toksOf : Dv → List Tk
  | .n x => if x < 0 then [mkT "sign" (.s "-"), mkT "number" (.n (-x))] else [mkT "number" (.n x)]
  | .s x => [mkT "text" (.s x)]
noncomputable def TokAt (news : List (Addr × Obj)) (r : Value) (tk : Tk) : Prop := ∃ a t n v, r = .ref a ∧ IsD tk.2 v ∧ (a, tok2 tk.1 t v n) ∈ news
noncomputable def TokL (news : List (Addr × Obj)) (rs : List Value) (ts : List Tk) : Prop := ∀ (i : Nat) (tk : Tk), ts[i]? = some tk → ∃ r, rs[i]? = some r ∧ TokAt news r tk
theorem TokL.mono {news news' : List (Addr × Obj)} {rs : List Value} {ts : List Tk} (T : TokL news rs ts) (h : ∀ p ∈ news, p ∈ news') : TokL news' rs ts := fun i tk e => by
  obtain ⟨r, h1, a, t, n, v, h2, h3, h4⟩ := T i tk e
  exact ⟨r, h1, a, t, n, v, h2, h3, h _ h4⟩
theorem TokL.str {news : List (Addr × Obj)} {rs : List Value} {ts : List Tk} (T : TokL news rs ts) {i : Nat} {k x : PySem.Str} (e : ts[i]? = some (mkT k (.s x))) : ∃ a t t' n, rs[i]? = some (.ref a) ∧ (a, tok2 k t (.str x t') n) ∈ news := by
  obtain ⟨r, h1, a, t, n, v, rfl, ⟨t', rfl⟩, h4⟩ := T i _ e
  exact ⟨a, t, t', n, h1, h4⟩
theorem TokL.int {news : List (Addr × Obj)} {rs : List Value} {ts : List Tk} (T : TokL news rs ts) {i : Nat} {k : PySem.Str} {x : Int} (e : ts[i]? = some (mkT k (.n x))) : ∃ a t t' n, rs[i]? = some (.ref a) ∧ (a, tok2 k t (.int x t') n) ∈ news := by
  obtain ⟨r, h1, a, t, n, v, rfl, ⟨t', rfl⟩, h4⟩ := T i _ e
  exact ⟨a, t, t', n, h1, h4⟩
structure ArgSpan (ts : List Tk) (i : Nat) (d : Dv) (j : Nat) : Prop where
  len : j = i + (toksOf d).length
  ok : d.Ok
  at_ : ∀ k, k < (toksOf d).length → ts[i + k]? = (toksOf d)[k]?
  sep : ts[j]? = some (mkT "sign" (.s ",")) ∨ ts[j]? = some (mkT "sign" (.s ")"))
theorem lt_of_get {α : Type} {l : List α} {i : Nat} {a : α} (h : l[i]? = some a) : i < l.length := (List.getElem?_eq_some_iff.mp h).1

theorem arg_bound (w : World) (tk st : Addr) (n i j : Nat) (vs : List Value) (ts : List Tk) (d : Dv) (t t1 t0 : Tok) (lev dep : Int) (news : List (Addr × Obj)) (h1 : (tk, listObj vs n) ∈ news) (hl : vs.length < 1000) (T : TokL news vs ts) (S : ArgSpan ts i d j)
    (hlev : 0 < lev) (hdep : dep ≤ 38) : Tel w 224 [.ref tk, .int (i : Int) t, .int lev t1, .ref st, .int dep t0] 45 450 news (RetPair (IsD d) j news) (fun _ => False) := by
  obtain ⟨len, ok, at_, sep⟩ := S
  have sp : ∃ (xs : PySem.Str) (tc : Addr) (a b : Tok) (m : Nat), (xs = "," ∨ xs = ")") ∧ vs[j]? = some (.ref tc) ∧ (tc, tok2 "sign" a (.str xs b) m) ∈ news := by
    rcases sep with e | e
    · obtain ⟨a, t, t', n, q, r⟩ := T.str e
      exact ⟨_, _, _, _, _, .inl rfl, q, r⟩
    · obtain ⟨a, t, t', n, q, r⟩ := T.str e
      exact ⟨_, _, _, _, _, .inr rfl, q, r⟩
  obtain ⟨xs, tc, ta, tb, m, hxs, hj, hc⟩ := sp
  cases d with
  | s x =>
    have e0 : ts[i]? = some (mkT "text" (Dv.s x)) := by simpa [toksOf] using at_ 0 (by simp [toksOf])
    obtain ⟨a, u, u', n2, q, r⟩ := T.str e0
    have hj' : j = i + 1 := by simpa [toksOf] using len
    subst hj'
    exact (bound_of w 6 60 tk tc st n i (i + 1) m vs t t0 t1 ta tb dep lev (IsS x) xs news h1 hl hlev (lt_of_get hj) hj hxs hc
      (first_text w tk a st n i n2 vs t t0 u u' dep x ok.1 news h1 q (lt_of_get q) hl (by omega) r)).mono (by omega) (by omega) (fun _ _ x => x) (fun _ x => x)
  | n x =>
    by_cases hx : x < 0
    · have e0 : ts[i]? = some (mkT "sign" (Dv.s "-")) := by simpa [toksOf, hx] using at_ 0 (by simp [toksOf, hx])
      have e1 : ts[i + 1]? = some (mkT "number" (Dv.n (-x))) := by simpa [toksOf, hx] using at_ 1 (by simp [toksOf, hx])
      obtain ⟨a, u, u', n2, q, r⟩ := T.str e0
      obtain ⟨a', v, v', n3, q', r'⟩ := T.int e1
      have hj' : j = i + 1 + 1 := by simpa [toksOf, hx] using len
      subst hj'
      obtain ⟨o1, o2⟩ := ok
      have hB : ∀ news2 t t7 t0, (∀ p ∈ news, p ∈ news2) → Tel w 224 [.ref tk, .int ((i + 1 : Nat) : Int) t, .int 7 t7, .ref st, .int (dep + 1) t0] 25 250 news2 (RetPair (IsI (-x)) (i + 1 + 1) news2) (fun _ => False) := fun news2 t t7 t0 hs =>
        (bound_of w 6 60 tk tc st n (i + 1) (i + 1 + 1) m vs t t0 t7 ta tb (dep + 1) 7 (IsI (-x)) xs news2 (hs _ h1) hl (by omega) (lt_of_get hj) hj hxs (hs _ hc)
          (first_num w tk a' st n (i + 1) n3 vs t t0 v v' (dep + 1) (-x) (by omega) (by omega) news2 (hs _ h1) q' (lt_of_get q') hl (by omega) (hs _ r'))).mono (by omega) (by omega) (fun _ _ x => x) (fun _ x => x)
      have := bound_of w 35 350 tk tc st n i (i + 1 + 1) m vs t t0 t1 ta tb dep lev (IsI (- -x)) xs news h1 hl hlev (lt_of_get hj) hj hxs hc
        (first_minus w tk a st n i (i + 1 + 1) n2 vs t t0 u u' dep (-x) (by omega) (by omega) news h1 q (lt_of_get q) hl r (by omega) hB)
      rw [Int.neg_neg] at this
      exact this.mono (by omega) (by omega) (fun _ _ x => x) (fun _ x => x)
    · have e0 : ts[i]? = some (mkT "number" (Dv.n x)) := by simpa [toksOf, hx] using at_ 0 (by simp [toksOf, hx])
      obtain ⟨a, u, u', n2, q, r⟩ := T.int e0
      have hj' : j = i + 1 := by simpa [toksOf, hx] using len
      subst hj'
      obtain ⟨o1, o2⟩ := ok
      exact (bound_of w 6 60 tk tc st n i (i + 1) m vs t t0 t1 ta tb dep lev (IsI x) xs news h1 hl hlev (lt_of_get hj) hj hxs hc
        (first_num w tk a st n i n2 vs t t0 u u' dep x (by omega) (by omega) news h1 q (lt_of_get q) hl (by omega) r)).mono (by omega) (by omega) (fun _ _ x => x) (fun _ x => x)
end
local macro_rules | `(tactic| walk_at "my_allLt") => `(tactic| first | assumption | exact And.right (by assumption) | exact And.right (And.right (by assumption)) | exact And.right (And.right (And.right (by assumption))) | exact And.right (And.right (And.right (And.right (by assumption)))) | exact And.right (And.right (And.right (And.right (And.right (by assumption))))) | exact And.right (And.right (And.right (And.right (And.right (And.right (by assumption)))))) | exact And.right (And.right (And.right (And.right (And.right (And.right (And.right (by assumption))))))) | exact And.right (And.right (And.right (And.right (And.right (And.right (And.right (And.right (by assumption))))))))| exact allLt_of (by assumption))
section
local macro_rules | `(tactic| k_all) => `(tactic| (refine fun p9 hp9 => Nat.ne_of_lt (allLt_mem _ ?_ p9 hp9); walk_at "my_allLt"))
noncomputable def RetVals (ds : List Dv) (j : Nat) (news : List (Addr × Obj)) (v : Value) (n : List (Addr × Obj)) : Prop :=
  ∃ (a l : Addr) (t : Tok) (k k2 : Nat) (ws : List Value), v = .ref a ∧ (∀ p ∈ news, p.1 < l) ∧ l < a ∧ ws.length = ds.length ∧ (∀ (i : Nat) (d : Dv), ds[i]? = some d → ∃ w, ws[i]? = some w ∧ IsD d w) ∧ n = (a, pairObj (.ref l) j t k) :: (l, listObj ws k2) :: news
theorem isd_nil : ∀ (i : Nat) (d : Dv), ([] : List Dv)[i]? = some d → ∃ w, ([] : List Value)[i]? = some w ∧ IsD d w := fun i d h => by simp at h
theorem isd_cons {d : Dv} {w : Value} {ds : List Dv} {ws : List Value} (h : IsD d w) (r : ∀ (i : Nat) (d : Dv), ds[i]? = some d → ∃ w, ws[i]? = some w ∧ IsD d w) : ∀ (i : Nat) (d' : Dv), (d :: ds)[i]? = some d' → ∃ w', (w :: ws)[i]? = some w' ∧ IsD d' w' := fun i d' e => by
  cases i with
  | zero => simp at e; subst e; exact ⟨w, by simp, h⟩
  | succ i => simp at e; obtain ⟨w', q, z⟩ := r i d' e; exact ⟨w', by simpa using q, z⟩
theorem pick2 {h₀ h : Heap} {L : Addr} {x y : Addr × Obj} {big news : List (Addr × Obj)} (N : News h₀ L h (x :: big)) (hy : y ∈ big) (hn : ∀ p ∈ news, p ∈ big) : News h₀ L h (x :: y :: news) := fun p hp => N p (by
  rcases List.mem_cons.mp hp with e | hp
  · exact e ▸ .head _
  · rcases List.mem_cons.mp hp with e | hp
    · exact e ▸ .tail _ hy
    · exact .tail _ (hn p hp))
end
section
local macro_rules | `(tactic| k_all) => `(tactic| (refine fun p9 hp9 => Nat.ne_of_lt (allLt_mem _ ?_ p9 hp9); walk_at "my_allLt"))
abbrev isLR (x : PySem.Str) : Bool := [Str.ofString "LEFT$", Str.ofString "RIGHT$"].any fun y => y == x
abbrev isMI (x : PySem.Str) : Bool := [Str.ofString "MID$", Str.ofString "INSTR"].any fun y => y == x
noncomputable def crP (x : PySem.Str) (k : Int) : Bool := if isLR x = true then k == 2 else if isMI x = true then [2, 3].any fun y => y == k else k == 1
theorem crP_l {x : PySem.Str} {k : Int} (h : isLR x = true) : crP x k = (k == 2) := by unfold crP; rw [if_pos h]
theorem crP_m {x : PySem.Str} {k : Int} (h : isLR x = false) (h2 : isMI x = true) : crP x k = ([2, 3].any fun y => y == k) := by unfold crP; rw [if_neg (by rw [h]; exact Bool.false_ne_true), if_pos h2]
theorem crP_o {x : PySem.Str} {k : Int} (h : isLR x = false) (h2 : isMI x = false) : crP x k = (k == 1) := by unfold crP; rw [if_neg (by rw [h]; exact Bool.false_ne_true), if_neg (by rw [h2]; exact Bool.false_ne_true)]
set_option maxHeartbeats 8000000
theorem count_right_ (w : World) (x : PySem.Str) (k : Int) (t t1 : Tok) (news) (hok : PyData.strOk x = true) : Tel w 184 [.str x t, .int k t1] 5 40 news (fun v n => v = .bool (crP x k) ∧ n = news) (fun _ => False) := by
  refine Box.out ?_
  simp (disch :=
    k_dflt ((
    refine keepP ?_
    walk_at "my_go"
    intro lo mean mg mb dp un gd outer A₀ base h₀ L hp0 gn0 dr0 tk0 os0 Q E B F X N T hd0 hu0 hP hret hexcN hexc
    (try dsimp only at F)
    k_steps
    all_goals refine hret _ news _ _ (by k_asm) (by walk_at "my_drop") ⟨congrArg Value.bool ?_, rfl⟩
    all_goals first | exact (crP_l (by assumption)).symm | exact (crP_m (by first | assumption | exact Bool.eq_false_iff.mpr (by assumption)) (by assumption)).symm | exact (crP_o (by first | assumption | exact Bool.eq_false_iff.mpr (by assumption)) (by first | assumption | exact Bool.eq_false_iff.mpr (by assumption))).symm))) only [↓boxed]
end
local macro_rules | `(tactic| k_all) => `(tactic| first | assumption | (refine fun p9 hp9 => Nat.ne_of_lt (allLt_mem _ ?_ p9 hp9); walk_at "my_allLt"))
local macro_rules | `(tactic| k_room) => `(tactic| ((have hlim9 := lim_is); walk_at "my_room"))
section
local macro_rules | `(tactic| k_all) => `(tactic| (refine fun p9 hp9 => Nat.ne_of_lt (allLt_mem _ ?_ p9 hp9); walk_at "my_allLt"))
inductive Res where
  | ok (d : Dv)
  | bad (k : PySem.Str)
noncomputable def RetR (r : Res) (keep : List (Addr × Obj)) (v : Value) (n : List (Addr × Obj)) : Prop := ∃ d, r = .ok d ∧ IsD d v ∧ n = keep
noncomputable def ExcR (r : Res) (k : PySem.Str) : Prop := r = .bad k
theorem Tel.keep {w : World} {f : Addr} {vs : List Value} {d u d' u' : Nat} {news keep : List (Addr × Obj)} {Ret : Value → List (Addr × Obj) → Prop} {R : Value → Prop} {Exc Exc' : PySem.Str → Prop} (C : Tel w f vs d u news Ret Exc) (h1 : d ≤ d') (h2 : u ≤ u')
    (hr : ∀ v n, Ret v n → R v ∧ ∀ p ∈ keep, p ∈ n) (he : ∀ k, Exc k → Exc' k) : Tel w f vs d' u' news (fun v n => R v ∧ n = keep) Exc' := by
  intro lo mean mg mb dp un gd cn cs a0 ccd cl outer A₀ base h₀ L m s Q E B F X N T hk hd0 hu0 hret hexc
  exact C.use B F X N T hk (by omega) (by omega) (fun v n h' tk' a b c => hret v keep h' tk' a (cb_drop b (hr v n c).2) ⟨(hr v n c).1, rfl⟩) fun k e g n h' tk' a b c d e' => hexc k e g n h' tk' (he k a) b c d e'
noncomputable def ntext (x : Int) : PySem.Str := if x < 0 then Str.ofString (toString x) else Str.ofString " " ++ Str.ofString (toString x)
noncomputable def numR (w : PySem.Str) (x : Int) : Res :=
  if w = "SGN" then .ok (.n (b2i (decide (0 < x)) - b2i (decide (x < 0))))
  else if w = "ABS" then .ok (.n (if x < 0 then -x else x))
  else if w = "STR$" then .ok (.s (ntext x))
  else if w = "CHR$" then (if 0 ≤ x ∧ x ≤ 255 then .ok (.s ⟨#[x.toNat]⟩) else .bad "FC")
  else .ok (.n (if 0 < x then Int.fmod 41 x else 90))
noncomputable def numRes (w : PySem.Str) : Dv → Res
  | .s _ => .bad "TM"
  | .n x => numR w x
abbrev storeL (st dx rl vd ad n : Nat) (z1 z2 z3 z4 : Int) (t2 t3 t4 t5 t6 t7 t8 : Tok) (keep : List (Addr × Obj)) : List (Addr × Obj) :=
  (st, instObj 269 dx) :: (dx, dictOf [⟨z1, .str "values" t2, .ref vd⟩, ⟨z2, .str "arrays" t3, .ref ad⟩, ⟨z3, .str "randoms" t4, .ref rl⟩, ⟨z4, .str "spot" t5, .int 0 t6⟩] 4) :: (rl, listObj [.int 41 t7, .int 90 t8] n) :: keep
set_option maxHeartbeats 8000000
theorem numtext (w : World) (x : Int) (t : Tok) (news) (h1 : -32767 ≤ x) (h2 : x ≤ 32767) : Tel w 142 [.int x t] 5 50 news (fun v n => IsS (ntext x) v ∧ n = news) (fun _ => False) := by
  refine Box.out ?_
  simp (disch :=
    k_dflt ((
    refine keepP ?_
    walk_at "my_go"
    intro lo mean mg mb dp un gd outer A₀ base h₀ L hp0 gn0 dr0 tk0 os0 Q E B F X N T hd0 hu0 hP hret hexcN hexc
    (try dsimp only at F)
    (repeat' (first | (k_unfold; (try dsimp only)) | (k_end; kc_close) | ((with_reducible show wpAny _ _ (isTrue _ _ _) _ _ _); with_reducible ((k_here; first | (with_reducible refine' cmpNI ?F ?e ?v ?_ ?m ?k ?x ?d; k_dflt (tm_at "c1"; (case m => exact rfl); tm_at "c2")) | (with_reducible refine' cmpNN ?F ?e ?v ?v' ?_ ?m ?k ?x ?d ?x' ?d'; k_dflt (tm_at "c1"; tm_at "c3"; (case m => exact rfl); tm_at "c2"))))) | walk1 | (dsimp only; walk1) | (leave1; (try dsimp only)) | fail "no step"))
    all_goals refine hret _ _ _ _ (by k_asm) (by k_asm) ⟨⟨_, congrArg (fun z => Value.str z _) ?_⟩, rfl⟩
    all_goals (unfold ntext; first | rw [if_pos (by assumption)] | rw [if_neg (by omega)])))) only [↓boxed]
theorem ofnum_s (w : World) (x y : PySem.Str) (t t1 : Tok) (st : Addr) (news) : Tel w 177 [.str x t, .str y t1, .ref st] 10 100 news (fun _ _ => False) (fun k => k = "TM") := by
  refine Box.out ?_
  simp (disch :=
    k_dflt ((
    refine keepP ?_
    walk_at "my_go"
    intro lo mean mg mb dp un gd outer A₀ base h₀ L hp0 gn0 dr0 tk0 os0 Q E B F X N T hd0 hu0 hP hret hexcN hexc
    (try dsimp only at F)
    (repeat' (first | (k_unfold; (try dsimp only)) | (k_end; kc_close) | ((with_reducible show wpAny _ _ (call (Value.ref _) _) _ _ _); first | with_reducible ((first | (k_here; (with_reducible show wpAny _ _ (call (Value.ref 79) [Value.str _ _]) _ _ _); k_dflt (refine' Tel.useX (need_number_s _ _ _ _) ?k1 ?k2 ?k3 ?k4 ?k5 ?k6 ?k7 ?k8 ?kr; tm_at "u1"; skip); (intro e9 g9 n9 h9 tk9 F9 U9 R9 hs9)) | (k_here; (with_reducible show wpAny _ _ (call (Value.ref 79) [Value.str _ _]) _ _ _); k_dflt (ktr_call z9 (need_number_s _ _ _ _); skip); (((case kr => exact fun _ _ _ _ _ _ hv9 => (show False from hv9).elim); intro k9 e9 g9 n9 h9 tk9 hk9 F9 U9 R9 hs9; subst hk9; (try dsimp only); (try k_fold))))))) | walk1 | (dsimp only; walk1) | (leave1; (try dsimp only)) | fail "no step"))
    all_goals first | (first | exact hexc _ _ _ _ _ _ rfl (by k_asm) (by k_asm) (by k_asm) (by first | exact fun _ h => h | assumption) | exact hexcN _ _ _ _ _ _ rfl (by k_asm) (by k_asm) (by k_asm) (by first | exact fun _ h => h | assumption))))) only [↓boxed]
theorem ofnum_sgn (w : World) (x : Int) (t t1 : Tok) (st : Addr) (news) (h1 : -32767 ≤ x) (h2 : x ≤ 32767) : Tel w 177 [.str "SGN" t, .int x t1, .ref st] 15 150 news (fun v n => IsI (b2i (decide (0 < x)) - b2i (decide (x < 0))) v ∧ n = news) (fun _ => False) := by
  refine Box.out ?_
  simp (disch :=
    k_dflt ((
    refine keepP ?_
    walk_at "my_go"
    intro lo mean mg mb dp un gd outer A₀ base h₀ L hp0 gn0 dr0 tk0 os0 Q E B F X N T hd0 hu0 hP hret hexcN hexc
    (try dsimp only at F)
    (repeat' (first | (k_unfold; (try dsimp only)) | (k_end; kc_close) | ((with_reducible show wpAny _ _ (call (Value.ref _) _) _ _ _); first | with_reducible ((first | (k_here; (with_reducible show wpAny _ _ (call (Value.ref 79) [Value.int _ _]) _ _ _); k_dflt (refine' Tel.useS (need_number_i _ _ _ _) ?k1 ?k2 ?k3 ?k4 ?k5 ?k6 ?k7 ?k8 ?kr; tm_at "u1"; skip); (intro h9 tk9 F9 N9)) | (k_here; (with_reducible show wpAny _ _ (call (Value.ref 79) [Value.int _ _]) _ _ _); k_dflt (ktr_call z9 (need_number_i _ _ _ _); skip); walk_at "my_ret")))) | walk1 | (dsimp only; walk1) | (leave1; (try dsimp only)) | fail "no step"))
    all_goals exact hret _ _ _ _ (by k_asm) (by k_asm) ⟨⟨_, rfl⟩, rfl⟩))) only [↓boxed]
theorem ofnum_abs (w : World) (x : Int) (t t1 : Tok) (st : Addr) (news) (h1 : -32767 ≤ x) (h2 : x ≤ 32767) : Tel w 177 [.str "ABS" t, .int x t1, .ref st] 15 150 news (fun v n => IsI (if x < 0 then -x else x) v ∧ n = news) (fun _ => False) := by
  refine Box.out ?_
  simp (disch :=
    k_dflt ((
    refine keepP ?_
    walk_at "my_go"
    intro lo mean mg mb dp un gd outer A₀ base h₀ L hp0 gn0 dr0 tk0 os0 Q E B F X N T hd0 hu0 hP hret hexcN hexc
    (try dsimp only at F)
    (repeat' (first | (k_unfold; (try dsimp only)) | (k_end; kc_close) | ((with_reducible show wpAny _ _ (eval (Expr.Call _ _ _ _) _) _ _ _); with_reducible ((k_here; kcj_call; walk_say "WAYS MEET"))) | ((with_reducible show wpAny _ _ (call (Value.ref _) _) _ _ _); first | with_reducible ((first | (k_here; (with_reducible show wpAny _ _ (call (Value.ref 65) [Value.int _ _]) _ _ _); k_dflt (refine' Tel.useS (fitted_ok _ _ _ _ ?p1 ?p2) ?k1 ?k2 ?k3 ?k4 ?k5 ?k6 ?k7 ?k8 ?kr; tm_at "u1"; (case p1 => omega); (case p2 => omega); skip); (intro h9 tk9 F9 N9)) | (k_here; (with_reducible show wpAny _ _ (call (Value.ref 65) [Value.int _ _]) _ _ _); k_dflt (ktr_call z9 (fitted_ok _ _ _ _ ?p1 ?p2); (case p1 => omega); (case p2 => omega); skip); walk_at "my_ret"))) | with_reducible ((first | (k_here; (with_reducible show wpAny _ _ (call (Value.ref 79) [Value.int _ _]) _ _ _); k_dflt (refine' Tel.useS (need_number_i _ _ _ _) ?k1 ?k2 ?k3 ?k4 ?k5 ?k6 ?k7 ?k8 ?kr; tm_at "u1"; skip); (intro h9 tk9 F9 N9)) | (k_here; (with_reducible show wpAny _ _ (call (Value.ref 79) [Value.int _ _]) _ _ _); k_dflt (ktr_call z9 (need_number_i _ _ _ _); skip); walk_at "my_ret")))) | walk1 | (dsimp only; walk1) | (leave1; (try dsimp only)) | fail "no step"))
    all_goals exact hret _ _ _ _ (by k_asm) (by k_asm) ⟨⟨_, rfl⟩, rfl⟩))) only [↓boxed]
theorem ofnum_str (w : World) (x : Int) (t t1 : Tok) (st : Addr) (news) (h1 : -32767 ≤ x) (h2 : x ≤ 32767) : Tel w 177 [.str "STR$" t, .int x t1, .ref st] 15 150 news (fun v n => IsS (ntext x) v ∧ n = news) (fun _ => False) := by
  refine Box.out ?_
  simp (disch :=
    k_dflt ((
    refine keepP ?_
    walk_at "my_go"
    intro lo mean mg mb dp un gd outer A₀ base h₀ L hp0 gn0 dr0 tk0 os0 Q E B F X N T hd0 hu0 hP hret hexcN hexc
    (try dsimp only at F)
    (repeat' (first | (k_unfold; (try dsimp only)) | (k_end; kc_close) | ((with_reducible show wpAny _ _ (call (Value.ref _) _) _ _ _); first | with_reducible ((k_here; (with_reducible show wpAny _ _ (call (Value.ref 142) [Value.int _ _]) _ _ _); k_dflt (ktr_call z9 (numtext _ _ _ _ ?p1 ?p2); (case p1 => omega); (case p2 => omega); skip); (((case ke => exact fun _ _ _ _ _ _ hk9 => (show False from hk9).elim); intro v9 n9 h9 tk9 F9 N9 hv9; obtain ⟨p9, e2⟩ := hv9; (unfold IsS at p9); obtain ⟨t9, e1⟩ := p9; subst e1; replace e2 := e2.symm; subst e2; (try dsimp only); (try k_fold))))) | with_reducible ((first | (k_here; (with_reducible show wpAny _ _ (call (Value.ref 79) [Value.int _ _]) _ _ _); k_dflt (refine' Tel.useS (need_number_i _ _ _ _) ?k1 ?k2 ?k3 ?k4 ?k5 ?k6 ?k7 ?k8 ?kr; tm_at "u1"; skip); (intro h9 tk9 F9 N9)) | (k_here; (with_reducible show wpAny _ _ (call (Value.ref 79) [Value.int _ _]) _ _ _); k_dflt (ktr_call z9 (need_number_i _ _ _ _); skip); walk_at "my_ret")))) | walk1 | (dsimp only; walk1) | (leave1; (try dsimp only)) | fail "no step"))
    all_goals exact hret _ _ _ _ (by k_asm) (by k_asm) ⟨⟨_, rfl⟩, rfl⟩))) only [↓boxed]
theorem ofnum_chr (w : World) (x : Int) (t t1 : Tok) (st : Addr) (news) (h1 : -32767 ≤ x) (h2 : x ≤ 32767)(h3 : 0 ≤ x) (h4 : x ≤ 255) : Tel w 177 [.str "CHR$" t, .int x t1, .ref st] 15 150 news (fun v n => IsS ⟨#[x.toNat]⟩ v ∧ n = news) (fun _ => False) := by
  refine Box.out ?_
  simp (disch :=
    k_dflt ((
    refine keepP ?_
    walk_at "my_go"
    intro lo mean mg mb dp un gd outer A₀ base h₀ L hp0 gn0 dr0 tk0 os0 Q E B F X N T hd0 hu0 hP hret hexcN hexc
    (try dsimp only at F)
    (repeat' (first | (k_unfold; (try dsimp only)) | (k_end; kc_close) | ((with_reducible show wpAny _ _ (call (Value.ref _) _) _ _ _); first | with_reducible ((first | (k_here; (with_reducible show wpAny _ _ (call (Value.ref 93) [Value.int _ _, Value.int _ _]) _ _ _); k_dflt (refine' Tel.useS (need_count_ok _ _ _ _ _ _ ?p1 ?p2) ?k1 ?k2 ?k3 ?k4 ?k5 ?k6 ?k7 ?k8 ?kr; tm_at "u1"; (case p1 => omega); (case p2 => omega); skip); (intro h9 tk9 F9 N9)) | (k_here; (with_reducible show wpAny _ _ (call (Value.ref 93) [Value.int _ _, Value.int _ _]) _ _ _); k_dflt (ktr_call z9 (need_count_ok _ _ _ _ _ _ ?p1 ?p2); (case p1 => omega); (case p2 => omega); skip); walk_at "my_ret"))) | with_reducible ((first | (k_here; (with_reducible show wpAny _ _ (call (Value.ref 79) [Value.int _ _]) _ _ _); k_dflt (refine' Tel.useS (need_number_i _ _ _ _) ?k1 ?k2 ?k3 ?k4 ?k5 ?k6 ?k7 ?k8 ?kr; tm_at "u1"; skip); (intro h9 tk9 F9 N9)) | (k_here; (with_reducible show wpAny _ _ (call (Value.ref 79) [Value.int _ _]) _ _ _); k_dflt (ktr_call z9 (need_number_i _ _ _ _); skip); walk_at "my_ret")))) | walk1 | (dsimp only; walk1) | (leave1; (try dsimp only)) | fail "no step"))
    all_goals exact hret _ _ _ _ (by k_asm) (by k_asm) ⟨⟨_, rfl⟩, rfl⟩))) only [↓boxed]
theorem ofnum_chrb (w : World) (x : Int) (t t1 : Tok) (st : Addr) (news) (h1 : -32767 ≤ x) (h2 : x ≤ 32767)(h3 : x < 0 ∨ 255 < x) : Tel w 177 [.str "CHR$" t, .int x t1, .ref st] 15 150 news (fun _ _ => False) (fun k => k = "FC") := by
  refine Box.out ?_
  simp (disch :=
    k_dflt ((
    refine keepP ?_
    walk_at "my_go"
    intro lo mean mg mb dp un gd outer A₀ base h₀ L hp0 gn0 dr0 tk0 os0 Q E B F X N T hd0 hu0 hP hret hexcN hexc
    (try dsimp only at F)
    (repeat' (first | (k_unfold; (try dsimp only)) | (k_end; kc_close) | ((with_reducible show wpAny _ _ (call (Value.ref _) _) _ _ _); first | with_reducible ((first | (k_here; (with_reducible show wpAny _ _ (call (Value.ref 93) [Value.int _ _, Value.int _ _]) _ _ _); k_dflt (refine' Tel.useX (need_count_bad _ _ _ _ _ _ ?p1) ?k1 ?k2 ?k3 ?k4 ?k5 ?k6 ?k7 ?k8 ?kr; tm_at "u1"; (case p1 => omega); skip); (intro e9 g9 n9 h9 tk9 F9 U9 R9 hs9)) | (k_here; (with_reducible show wpAny _ _ (call (Value.ref 93) [Value.int _ _, Value.int _ _]) _ _ _); k_dflt (ktr_call z9 (need_count_bad _ _ _ _ _ _ ?p1); (case p1 => omega); skip); (((case kr => exact fun _ _ _ _ _ _ hv9 => (show False from hv9).elim); intro k9 e9 g9 n9 h9 tk9 hk9 F9 U9 R9 hs9; subst hk9; (try dsimp only); (try k_fold)))))) | with_reducible ((first | (k_here; (with_reducible show wpAny _ _ (call (Value.ref 79) [Value.int _ _]) _ _ _); k_dflt (refine' Tel.useS (need_number_i _ _ _ _) ?k1 ?k2 ?k3 ?k4 ?k5 ?k6 ?k7 ?k8 ?kr; tm_at "u1"; skip); (intro h9 tk9 F9 N9)) | (k_here; (with_reducible show wpAny _ _ (call (Value.ref 79) [Value.int _ _]) _ _ _); k_dflt (ktr_call z9 (need_number_i _ _ _ _); skip); walk_at "my_ret")))) | walk1 | (dsimp only; walk1) | (leave1; (try dsimp only)) | fail "no step"))
    all_goals first | (first | exact hexc _ _ _ _ _ _ rfl (by k_asm) (by k_asm) (by k_asm) (by first | exact fun _ h => h | assumption) | exact hexcN _ _ _ _ _ _ rfl (by k_asm) (by k_asm) (by k_asm) (by first | exact fun _ h => h | assumption))))) only [↓boxed]
theorem ofnum_rnd (w : World) (x : Int) (t t1 : Tok) (st dx rl vd ad n : Nat) (z1 z2 z3 z4 : Int) (t2 t3 t4 t5 t6 t7 t8 : Tok) (keep : List (Addr × Obj)) (h1 : -32767 ≤ x) (h2 : x ≤ 32767) (hdx : ∀ p ∈ keep, p.1 ≠ dx) (h11 : rl < dx) (h12 : dx < st) : Tel w 177 [.str "RND" t, .int x t1, .ref st] 30 300 (storeL st dx rl vd ad n z1 z2 z3 z4 t2 t3 t4 t5 t6 t7 t8 keep) (fun v n => IsI (if 0 < x then Int.fmod 41 x else 90) v ∧ n = keep) (fun _ => False) := by
  refine Box.out ?_
  simp (disch :=
    k_dflt ((
    refine keepP ?_
    walk_at "my_go"
    intro lo mean mg mb dp un gd outer A₀ base h₀ L hp0 gn0 dr0 tk0 os0 Q E B F X N T hd0 hu0 hP hret hexcN hexc
    (try dsimp only at F)
    (repeat' (first | (k_unfold; (try dsimp only)) | (k_end; kc_close) | ((with_reducible show wpAny _ _ (call (Value.ref _) _) _ _ _); first | with_reducible ((first | (k_here; (with_reducible show wpAny _ _ (call (Value.ref 79) [Value.int _ _]) _ _ _); k_dflt (refine' Tel.useS (need_number_i _ _ _ _) ?k1 ?k2 ?k3 ?k4 ?k5 ?k6 ?k7 ?k8 ?kr; tm_at "u1"; skip); (intro h9 tk9 F9 N9)) | (k_here; (with_reducible show wpAny _ _ (call (Value.ref 79) [Value.int _ _]) _ _ _); k_dflt (ktr_call z9 (need_number_i _ _ _ _); skip); walk_at "my_ret")))) | walk1 | (dsimp only; walk1) | (leave1; (try dsimp only)) | fail "no step"))
    all_goals refine hret _ keep _ _ (by k_asm) (cb_drop (by k_asm) (fun p hp => by simp only [List.mem_cons, hp, or_true])) ⟨⟨_, congrArg (fun z => Value.int z _) ?_⟩, rfl⟩
    all_goals first | rw [if_pos (by omega)] | rw [if_neg (by omega)]))) only [↓boxed]

theorem ofnum_all (w : World) (wd : PySem.Str) (hw : wd = "SGN" ∨ wd = "ABS" ∨ wd = "STR$" ∨ wd = "CHR$" ∨ wd = "RND") (d : Dv) (v : Value) (t : Tok) (st dx rl vd ad n : Nat) (z1 z2 z3 z4 : Int) (t2 t3 t4 t5 t6 t7 t8 : Tok) (keep : List (Addr × Obj))
    (hok : d.Ok) (hv : IsD d v) (hdx : ∀ p ∈ keep, p.1 ≠ dx) (h11 : rl < dx) (h12 : dx < st) :
    Tel w 177 [.str wd t, v, .ref st] 35 350 (storeL st dx rl vd ad n z1 z2 z3 z4 t2 t3 t4 t5 t6 t7 t8 keep) (RetR (numRes wd d) keep) (ExcR (numRes wd d)) := by
  have sub : ∀ p ∈ keep, p ∈ storeL st dx rl vd ad n z1 z2 z3 z4 t2 t3 t4 t5 t6 t7 t8 keep := fun p hp => .tail _ (.tail _ (.tail _ hp))
  cases d with
  | s y =>
    obtain ⟨ty, rfl⟩ := hv
    exact (ofnum_s w wd y t ty st _).mono (by omega) (by omega) (fun _ _ x => x.elim) fun k e => by subst e; rfl
  | n x =>
    obtain ⟨tx, rfl⟩ := hv
    obtain ⟨o1, o2⟩ := hok
    have fin : ∀ (r : Dv) (P : Value → Prop), numR wd x = .ok r → (∀ v, P v → IsD r v) → Tel w 177 [.str wd t, .int x tx, .ref st] 35 350 (storeL st dx rl vd ad n z1 z2 z3 z4 t2 t3 t4 t5 t6 t7 t8 keep) (fun v n => P v ∧ n = keep) (fun _ => False) →
        Tel w 177 [.str wd t, .int x tx, .ref st] 35 350 (storeL st dx rl vd ad n z1 z2 z3 z4 t2 t3 t4 t5 t6 t7 t8 keep) (RetR (numRes wd (.n x)) keep) (ExcR (numRes wd (.n x))) := fun r P e q C =>
      C.mono (Nat.le_refl _) (Nat.le_refl _) (fun v n z => ⟨r, e, q v z.1, z.2⟩) fun k z => z.elim
    rcases hw with rfl | rfl | rfl | rfl | rfl
    · refine fin _ _ (if_pos rfl) (fun _ z => z) ((ofnum_sgn w x t tx st _ o1 o2).keep (R := IsI _) (by omega) (by omega) (fun v n z => ⟨z.1, z.2 ▸ sub⟩) fun _ z => z)
    · refine fin _ _ ((if_neg (by decide +kernel)).trans (if_pos rfl)) (fun _ z => z) ((ofnum_abs w x t tx st _ o1 o2).keep (R := IsI _) (by omega) (by omega) (fun v n z => ⟨z.1, z.2 ▸ sub⟩) fun _ z => z)
    · refine fin _ _ ((if_neg (by decide +kernel)).trans ((if_neg (by decide +kernel)).trans (if_pos rfl))) (fun _ z => z) ((ofnum_str w x t tx st _ o1 o2).keep (R := IsS _) (by omega) (by omega) (fun v n z => ⟨z.1, z.2 ▸ sub⟩) fun _ z => z)
    · have e : numR "CHR$" x = if 0 ≤ x ∧ x ≤ 255 then .ok (.s ⟨#[x.toNat]⟩) else .bad "FC" := (if_neg (by decide +kernel)).trans ((if_neg (by decide +kernel)).trans ((if_neg (by decide +kernel)).trans (if_pos rfl)))
      by_cases h : 0 ≤ x ∧ x ≤ 255
      · refine fin _ _ (e.trans (if_pos h)) (fun _ z => z) ((ofnum_chr w x t tx st _ o1 o2 h.1 h.2).keep (R := IsS _) (by omega) (by omega) (fun v n z => ⟨z.1, z.2 ▸ sub⟩) fun _ z => z)
      · exact (ofnum_chrb w x t tx st _ o1 o2 (by omega)).mono (by omega) (by omega) (fun _ _ x => x.elim) fun k q => by subst q; exact e.trans (if_neg h)
    · refine fin _ _ ((if_neg (by decide +kernel)).trans ((if_neg (by decide +kernel)).trans ((if_neg (by decide +kernel)).trans (if_neg (by decide +kernel))))) (fun _ z => z) ((ofnum_rnd w x t tx st dx rl vd ad n z1 z2 z3 z4 t2 t3 t4 t5 t6 t7 t8 keep o1 o2 hdx h11 h12).mono (by omega) (by omega) (fun _ _ z => z) fun _ z => z)
end
section
noncomputable def plV (y : Int) (x x2 : PySem.Str) : Int := if y > (x.length : Int) then 0 else Txt.find3 x x2 (y - 1) + 1
set_option maxHeartbeats 8000000
theorem mid1 (w : World) (y : Int) (t0 : Tok) (r : List Value) (l k : Nat) (news : List (Addr × Obj)) (h1 : (l, listObj (.int y t0 :: r) k) ∈ news)  : Tel w 156 [.ref l] 20 200 news (fun _ _ => False) (fun k => k = "TM") := by
  refine Box.out ?_
  simp (disch :=
    k_dflt ((
    refine keepP ?_
    walk_at "my_go"
    intro lo mean mg mb dp un gd outer A₀ base h₀ L hp0 gn0 dr0 tk0 os0 Q E B F X N T hd0 hu0 hP hret hexcN hexc
    (try dsimp only at F)
    (repeat' (first | (k_unfold; (try dsimp only)) | (k_end; kc_close) | ((with_reducible show wpAny _ _ (subscriptTail _ _ _ _) _ _ _); first | with_reducible ((k_here; (with_reducible show wpAny _ _ (subscriptTail _ _ (Value.ref _) (Value.int _ _)) _ _ _); (with_unfolding_all refine' item_list (News.isList ?n ?m) ?h0 ?hf ?hx ?_ ?hs ?hg; (case n => k_asm); (case m => tm_at "mem"); (case h0 => omega); (case hf => omega); (case hx => first | ((simp only [List.getElem?_toArray, Int.toNat_natCast]); assumption) | exact get0 | exact get1 | exact get2 | exact get3); (case hs => with_unfolding_all rfl); (case hg => intro _; with_unfolding_all rfl); k_whole)))) | ((with_reducible show wpAny _ _ (call (Value.ref _) _) _ _ _); first | with_reducible ((first | (k_here; (with_reducible show wpAny _ _ (call (Value.ref 86) [Value.int _ _]) _ _ _); k_dflt (refine' Tel.useX (need_text_i _ _ _ _) ?k1 ?k2 ?k3 ?k4 ?k5 ?k6 ?k7 ?k8 ?kr; tm_at "u1"; skip); (intro e9 g9 n9 h9 tk9 F9 U9 R9 hs9)) | (k_here; (with_reducible show wpAny _ _ (call (Value.ref 86) [Value.int _ _]) _ _ _); k_dflt (ktr_call z9 (need_text_i _ _ _ _); skip); (((case kr => exact fun _ _ _ _ _ _ hv9 => (show False from hv9).elim); intro k9 e9 g9 n9 h9 tk9 hk9 F9 U9 R9 hs9; subst hk9; (try dsimp only); (try k_fold))))))) | walk1 | (dsimp only; walk1) | (leave1; (try dsimp only)) | fail "no step"))
    all_goals first | (first | exact hexc _ _ _ _ _ _ rfl (by k_asm) (by k_asm) (by k_asm) (by first | exact fun _ h => h | assumption | (intro p9 hp9; (rename (∀ p ∈ _, p ∈ _) => hs9x); exact hs9x p9 (by simp only [List.mem_cons, hp9, or_true]))) | exact hexcN _ _ _ _ _ _ rfl (by k_asm) (by k_asm) (by k_asm) (by first | exact fun _ h => h | assumption | (intro p9 hp9; (rename (∀ p ∈ _, p ∈ _) => hs9x); exact hs9x p9 (by simp only [List.mem_cons, hp9, or_true]))))))) only [↓boxed]
theorem mid2 (w : World) (x : PySem.Str) (t0 : Tok) (hok : PyData.strOk x = true) (hx : x.length ≤ 100) (x2 : PySem.Str) (t1 : Tok) (r : List Value) (l k : Nat) (news : List (Addr × Obj)) (h1 : (l, listObj (.str x t0 :: .str x2 t1 :: r) k) ∈ news)  : Tel w 156 [.ref l] 20 200 news (fun _ _ => False) (fun k => k = "TM") := by
  refine Box.out ?_
  simp (disch :=
    k_dflt ((
    refine keepP ?_
    walk_at "my_go"
    intro lo mean mg mb dp un gd outer A₀ base h₀ L hp0 gn0 dr0 tk0 os0 Q E B F X N T hd0 hu0 hP hret hexcN hexc
    (try dsimp only at F)
    (repeat' (first | (k_unfold; (try dsimp only)) | (k_end; kc_close) | ((with_reducible show wpAny _ _ (subscriptTail _ _ _ _) _ _ _); first | with_reducible ((k_here; (with_reducible show wpAny _ _ (subscriptTail _ _ (Value.ref _) (Value.int _ _)) _ _ _); (with_unfolding_all refine' item_list (News.isList ?n ?m) ?h0 ?hf ?hx ?_ ?hs ?hg; (case n => k_asm); (case m => tm_at "mem"); (case h0 => omega); (case hf => omega); (case hx => first | ((simp only [List.getElem?_toArray, Int.toNat_natCast]); assumption) | exact get0 | exact get1 | exact get2 | exact get3); (case hs => with_unfolding_all rfl); (case hg => intro _; with_unfolding_all rfl); k_whole)))) | ((with_reducible show wpAny _ _ (call (Value.ref _) _) _ _ _); first | with_reducible ((first | (k_here; (with_reducible show wpAny _ _ (call (Value.ref 93) [Value.str _ _, Value.int _ _]) _ _ _); k_dflt (refine' Tel.useX (need_count_s _ _ _ _ _ _) ?k1 ?k2 ?k3 ?k4 ?k5 ?k6 ?k7 ?k8 ?kr; tm_at "u1"; skip); (intro e9 g9 n9 h9 tk9 F9 U9 R9 hs9)) | (k_here; (with_reducible show wpAny _ _ (call (Value.ref 93) [Value.str _ _, Value.int _ _]) _ _ _); k_dflt (ktr_call z9 (need_count_s _ _ _ _ _ _); skip); (((case kr => exact fun _ _ _ _ _ _ hv9 => (show False from hv9).elim); intro k9 e9 g9 n9 h9 tk9 hk9 F9 U9 R9 hs9; subst hk9; (try dsimp only); (try k_fold)))))) | with_reducible ((first | (k_here; (with_reducible show wpAny _ _ (call (Value.ref 86) [Value.str _ _]) _ _ _); k_dflt (refine' Tel.useS (need_text_s _ _ _ _) ?k1 ?k2 ?k3 ?k4 ?k5 ?k6 ?k7 ?k8 ?kr; tm_at "u1"; skip); (intro h9 tk9 F9 N9)) | (k_here; (with_reducible show wpAny _ _ (call (Value.ref 86) [Value.str _ _]) _ _ _); k_dflt (ktr_call z9 (need_text_s _ _ _ _); skip); walk_at "my_ret")))) | walk1 | (dsimp only; walk1) | (leave1; (try dsimp only)) | fail "no step"))
    all_goals first | (first | exact hexc _ _ _ _ _ _ rfl (by k_asm) (by k_asm) (by k_asm) (by first | exact fun _ h => h | assumption | (intro p9 hp9; (rename (∀ p ∈ _, p ∈ _) => hs9x); exact hs9x p9 (by simp only [List.mem_cons, hp9, or_true]))) | exact hexcN _ _ _ _ _ _ rfl (by k_asm) (by k_asm) (by k_asm) (by first | exact fun _ h => h | assumption | (intro p9 hp9; (rename (∀ p ∈ _, p ∈ _) => hs9x); exact hs9x p9 (by simp only [List.mem_cons, hp9, or_true]))))))) only [↓boxed]
theorem mid3 (w : World) (x : PySem.Str) (t0 : Tok) (hok : PyData.strOk x = true) (hx : x.length ≤ 100) (y : Int) (t1 : Tok) (hy : y < 1 ∨ 255 < y) (r : List Value) (l k : Nat) (news : List (Addr × Obj)) (h1 : (l, listObj (.str x t0 :: .int y t1 :: r) k) ∈ news)  : Tel w 156 [.ref l] 20 200 news (fun _ _ => False) (fun k => k = "FC") := by
  refine Box.out ?_
  simp (disch :=
    k_dflt ((
    refine keepP ?_
    walk_at "my_go"
    intro lo mean mg mb dp un gd outer A₀ base h₀ L hp0 gn0 dr0 tk0 os0 Q E B F X N T hd0 hu0 hP hret hexcN hexc
    (try dsimp only at F)
    (repeat' (first | (k_unfold; (try dsimp only)) | (k_end; kc_close) | ((with_reducible show wpAny _ _ (subscriptTail _ _ _ _) _ _ _); first | with_reducible ((k_here; (with_reducible show wpAny _ _ (subscriptTail _ _ (Value.ref _) (Value.int _ _)) _ _ _); (with_unfolding_all refine' item_list (News.isList ?n ?m) ?h0 ?hf ?hx ?_ ?hs ?hg; (case n => k_asm); (case m => tm_at "mem"); (case h0 => omega); (case hf => omega); (case hx => first | ((simp only [List.getElem?_toArray, Int.toNat_natCast]); assumption) | exact get0 | exact get1 | exact get2 | exact get3); (case hs => with_unfolding_all rfl); (case hg => intro _; with_unfolding_all rfl); k_whole)))) | ((with_reducible show wpAny _ _ (call (Value.ref _) _) _ _ _); first | with_reducible ((first | (k_here; (with_reducible show wpAny _ _ (call (Value.ref 93) [Value.int _ _, Value.int _ _]) _ _ _); k_dflt (refine' Tel.useX (need_count_bad _ _ _ _ _ _ ?p1) ?k1 ?k2 ?k3 ?k4 ?k5 ?k6 ?k7 ?k8 ?kr; tm_at "u1"; (case p1 => omega); skip); (intro e9 g9 n9 h9 tk9 F9 U9 R9 hs9)) | (k_here; (with_reducible show wpAny _ _ (call (Value.ref 93) [Value.int _ _, Value.int _ _]) _ _ _); k_dflt (ktr_call z9 (need_count_bad _ _ _ _ _ _ ?p1); (case p1 => omega); skip); (((case kr => exact fun _ _ _ _ _ _ hv9 => (show False from hv9).elim); intro k9 e9 g9 n9 h9 tk9 hk9 F9 U9 R9 hs9; subst hk9; (try dsimp only); (try k_fold)))))) | with_reducible ((first | (k_here; (with_reducible show wpAny _ _ (call (Value.ref 86) [Value.str _ _]) _ _ _); k_dflt (refine' Tel.useS (need_text_s _ _ _ _) ?k1 ?k2 ?k3 ?k4 ?k5 ?k6 ?k7 ?k8 ?kr; tm_at "u1"; skip); (intro h9 tk9 F9 N9)) | (k_here; (with_reducible show wpAny _ _ (call (Value.ref 86) [Value.str _ _]) _ _ _); k_dflt (ktr_call z9 (need_text_s _ _ _ _); skip); walk_at "my_ret")))) | walk1 | (dsimp only; walk1) | (leave1; (try dsimp only)) | fail "no step"))
    all_goals first | (first | exact hexc _ _ _ _ _ _ rfl (by k_asm) (by k_asm) (by k_asm) (by first | exact fun _ h => h | assumption | (intro p9 hp9; (rename (∀ p ∈ _, p ∈ _) => hs9x); exact hs9x p9 (by simp only [List.mem_cons, hp9, or_true]))) | exact hexcN _ _ _ _ _ _ rfl (by k_asm) (by k_asm) (by k_asm) (by first | exact fun _ h => h | assumption | (intro p9 hp9; (rename (∀ p ∈ _, p ∈ _) => hs9x); exact hs9x p9 (by simp only [List.mem_cons, hp9, or_true]))))))) only [↓boxed]
theorem mid4 (w : World) (x : PySem.Str) (t0 : Tok) (hok : PyData.strOk x = true) (hx : x.length ≤ 100) (y : Int) (t1 : Tok) (hy : 1 ≤ y) (hy2 : y ≤ 255) (l k : Nat) (news : List (Addr × Obj)) (h1 : (l, listObj ([.str x t0, .int y t1]) k) ∈ news)  : Tel w 156 [.ref l] 20 200 news (fun v n => IsS (Txt.slice x (some (y - 1)) (some (y - 1 + 255))) v ∧ n = news) (fun _ => False) := by
  refine Box.out ?_
  simp (disch :=
    k_dflt ((
    refine keepP ?_
    walk_at "my_go"
    intro lo mean mg mb dp un gd outer A₀ base h₀ L hp0 gn0 dr0 tk0 os0 Q E B F X N T hd0 hu0 hP hret hexcN hexc
    (try dsimp only at F)
    (repeat' (first | (k_unfold; (try dsimp only)) | (k_end; kc_close) | ((with_reducible show wpAny _ _ (subscriptTail _ _ _ _) _ _ _); first | with_reducible ((k_here; (with_reducible show wpAny _ _ (subscriptTail _ _ (Value.ref _) (Value.int _ _)) _ _ _); (with_unfolding_all refine' item_list (News.isList ?n ?m) ?h0 ?hf ?hx ?_ ?hs ?hg; (case n => k_asm); (case m => tm_at "mem"); (case h0 => omega); (case hf => omega); (case hx => first | ((simp only [List.getElem?_toArray, Int.toNat_natCast]); assumption) | exact get0 | exact get1 | exact get2 | exact get3); (case hs => with_unfolding_all rfl); (case hg => intro _; with_unfolding_all rfl); k_whole)))) | ((with_reducible show wpAny _ _ (call (Value.builtin _) _) _ _ _); first | with_reducible ((k_here; (with_reducible show wpAny _ _ (call (Value.builtin _) [Value.ref _]) _ _ _); k_dflt (refine' len_list (News.isList ?n ?m) ?f ?_; (case n => k_asm); (case m => tm_at "mem"); (case f => first | (simp only [List.size_toArray]; omega) | (simp only [List.size_toArray, List.length_cons, List.length_nil]; omega)); k_whole); (try simp only [List.size_toArray, List.length_cons, List.length_nil])))) | ((with_reducible show wpAny _ _ (call (Value.ref _) _) _ _ _); first | with_reducible ((first | (k_here; (with_reducible show wpAny _ _ (call (Value.ref 93) [Value.int _ _, Value.int _ _]) _ _ _); k_dflt (refine' Tel.useS (need_count_ok _ _ _ _ _ _ ?p1 ?p2) ?k1 ?k2 ?k3 ?k4 ?k5 ?k6 ?k7 ?k8 ?kr; tm_at "u1"; (case p1 => omega); (case p2 => omega); skip); (intro h9 tk9 F9 N9)) | (k_here; (with_reducible show wpAny _ _ (call (Value.ref 93) [Value.int _ _, Value.int _ _]) _ _ _); k_dflt (ktr_call z9 (need_count_ok _ _ _ _ _ _ ?p1 ?p2); (case p1 => omega); (case p2 => omega); skip); walk_at "my_ret"))) | with_reducible ((first | (k_here; (with_reducible show wpAny _ _ (call (Value.ref 86) [Value.str _ _]) _ _ _); k_dflt (refine' Tel.useS (need_text_s _ _ _ _) ?k1 ?k2 ?k3 ?k4 ?k5 ?k6 ?k7 ?k8 ?kr; tm_at "u1"; skip); (intro h9 tk9 F9 N9)) | (k_here; (with_reducible show wpAny _ _ (call (Value.ref 86) [Value.str _ _]) _ _ _); k_dflt (ktr_call z9 (need_text_s _ _ _ _); skip); walk_at "my_ret")))) | walk1 | (dsimp only; walk1) | (leave1; (try dsimp only)) | fail "no step"))
    all_goals exact hret _ news _ _ (by k_asm) (by walk_at "my_drop") ⟨⟨_, rfl⟩, rfl⟩))) only [↓boxed]
theorem mid5 (w : World) (x : PySem.Str) (t0 : Tok) (hok : PyData.strOk x = true) (hx : x.length ≤ 100) (y : Int) (t1 : Tok) (hy : 1 ≤ y) (hy2 : y ≤ 255) (x2 : PySem.Str) (t2 : Tok) (l k : Nat) (news : List (Addr × Obj)) (h1 : (l, listObj ([.str x t0, .int y t1, .str x2 t2]) k) ∈ news)  : Tel w 156 [.ref l] 20 200 news (fun _ _ => False) (fun k => k = "TM") := by
  refine Box.out ?_
  simp (disch :=
    k_dflt ((
    refine keepP ?_
    walk_at "my_go"
    intro lo mean mg mb dp un gd outer A₀ base h₀ L hp0 gn0 dr0 tk0 os0 Q E B F X N T hd0 hu0 hP hret hexcN hexc
    (try dsimp only at F)
    (repeat' (first | (k_unfold; (try dsimp only)) | (k_end; kc_close) | ((with_reducible show wpAny _ _ (subscriptTail _ _ _ _) _ _ _); first | with_reducible ((k_here; (with_reducible show wpAny _ _ (subscriptTail _ _ (Value.ref _) (Value.int _ _)) _ _ _); (with_unfolding_all refine' item_list (News.isList ?n ?m) ?h0 ?hf ?hx ?_ ?hs ?hg; (case n => k_asm); (case m => tm_at "mem"); (case h0 => omega); (case hf => omega); (case hx => first | ((simp only [List.getElem?_toArray, Int.toNat_natCast]); assumption) | exact get0 | exact get1 | exact get2 | exact get3); (case hs => with_unfolding_all rfl); (case hg => intro _; with_unfolding_all rfl); k_whole)))) | ((with_reducible show wpAny _ _ (call (Value.builtin _) _) _ _ _); first | with_reducible ((k_here; (with_reducible show wpAny _ _ (call (Value.builtin _) [Value.ref _]) _ _ _); k_dflt (refine' len_list (News.isList ?n ?m) ?f ?_; (case n => k_asm); (case m => tm_at "mem"); (case f => first | (simp only [List.size_toArray]; omega) | (simp only [List.size_toArray, List.length_cons, List.length_nil]; omega)); k_whole); (try simp only [List.size_toArray, List.length_cons, List.length_nil])))) | ((with_reducible show wpAny _ _ (call (Value.ref _) _) _ _ _); first | with_reducible ((first | (k_here; (with_reducible show wpAny _ _ (call (Value.ref 93) [Value.str _ _, Value.int _ _]) _ _ _); k_dflt (refine' Tel.useX (need_count_s _ _ _ _ _ _) ?k1 ?k2 ?k3 ?k4 ?k5 ?k6 ?k7 ?k8 ?kr; tm_at "u1"; skip); (intro e9 g9 n9 h9 tk9 F9 U9 R9 hs9)) | (k_here; (with_reducible show wpAny _ _ (call (Value.ref 93) [Value.str _ _, Value.int _ _]) _ _ _); k_dflt (ktr_call z9 (need_count_s _ _ _ _ _ _); skip); (((case kr => exact fun _ _ _ _ _ _ hv9 => (show False from hv9).elim); intro k9 e9 g9 n9 h9 tk9 hk9 F9 U9 R9 hs9; subst hk9; (try dsimp only); (try k_fold)))))) | with_reducible ((first | (k_here; (with_reducible show wpAny _ _ (call (Value.ref 93) [Value.int _ _, Value.int _ _]) _ _ _); k_dflt (refine' Tel.useS (need_count_ok _ _ _ _ _ _ ?p1 ?p2) ?k1 ?k2 ?k3 ?k4 ?k5 ?k6 ?k7 ?k8 ?kr; tm_at "u1"; (case p1 => omega); (case p2 => omega); skip); (intro h9 tk9 F9 N9)) | (k_here; (with_reducible show wpAny _ _ (call (Value.ref 93) [Value.int _ _, Value.int _ _]) _ _ _); k_dflt (ktr_call z9 (need_count_ok _ _ _ _ _ _ ?p1 ?p2); (case p1 => omega); (case p2 => omega); skip); walk_at "my_ret"))) | with_reducible ((first | (k_here; (with_reducible show wpAny _ _ (call (Value.ref 86) [Value.str _ _]) _ _ _); k_dflt (refine' Tel.useS (need_text_s _ _ _ _) ?k1 ?k2 ?k3 ?k4 ?k5 ?k6 ?k7 ?k8 ?kr; tm_at "u1"; skip); (intro h9 tk9 F9 N9)) | (k_here; (with_reducible show wpAny _ _ (call (Value.ref 86) [Value.str _ _]) _ _ _); k_dflt (ktr_call z9 (need_text_s _ _ _ _); skip); walk_at "my_ret")))) | walk1 | (dsimp only; walk1) | (leave1; (try dsimp only)) | fail "no step"))
    all_goals first | (first | exact hexc _ _ _ _ _ _ rfl (by k_asm) (by k_asm) (by k_asm) (by first | exact fun _ h => h | assumption | (intro p9 hp9; (rename (∀ p ∈ _, p ∈ _) => hs9x); exact hs9x p9 (by simp only [List.mem_cons, hp9, or_true]))) | exact hexcN _ _ _ _ _ _ rfl (by k_asm) (by k_asm) (by k_asm) (by first | exact fun _ h => h | assumption | (intro p9 hp9; (rename (∀ p ∈ _, p ∈ _) => hs9x); exact hs9x p9 (by simp only [List.mem_cons, hp9, or_true]))))))) only [↓boxed]
theorem mid6 (w : World) (x : PySem.Str) (t0 : Tok) (hok : PyData.strOk x = true) (hx : x.length ≤ 100) (y : Int) (t1 : Tok) (hy : 1 ≤ y) (hy2 : y ≤ 255) (z : Int) (t2 : Tok) (hz : z < 0 ∨ 255 < z) (l k : Nat) (news : List (Addr × Obj)) (h1 : (l, listObj ([.str x t0, .int y t1, .int z t2]) k) ∈ news)  : Tel w 156 [.ref l] 20 200 news (fun _ _ => False) (fun k => k = "FC") := by
  refine Box.out ?_
  simp (disch :=
    k_dflt ((
    refine keepP ?_
    walk_at "my_go"
    intro lo mean mg mb dp un gd outer A₀ base h₀ L hp0 gn0 dr0 tk0 os0 Q E B F X N T hd0 hu0 hP hret hexcN hexc
    (try dsimp only at F)
    (repeat' (first | (k_unfold; (try dsimp only)) | (k_end; kc_close) | ((with_reducible show wpAny _ _ (subscriptTail _ _ _ _) _ _ _); first | with_reducible ((k_here; (with_reducible show wpAny _ _ (subscriptTail _ _ (Value.ref _) (Value.int _ _)) _ _ _); (with_unfolding_all refine' item_list (News.isList ?n ?m) ?h0 ?hf ?hx ?_ ?hs ?hg; (case n => k_asm); (case m => tm_at "mem"); (case h0 => omega); (case hf => omega); (case hx => first | ((simp only [List.getElem?_toArray, Int.toNat_natCast]); assumption) | exact get0 | exact get1 | exact get2 | exact get3); (case hs => with_unfolding_all rfl); (case hg => intro _; with_unfolding_all rfl); k_whole)))) | ((with_reducible show wpAny _ _ (call (Value.builtin _) _) _ _ _); first | with_reducible ((k_here; (with_reducible show wpAny _ _ (call (Value.builtin _) [Value.ref _]) _ _ _); k_dflt (refine' len_list (News.isList ?n ?m) ?f ?_; (case n => k_asm); (case m => tm_at "mem"); (case f => first | (simp only [List.size_toArray]; omega) | (simp only [List.size_toArray, List.length_cons, List.length_nil]; omega)); k_whole); (try simp only [List.size_toArray, List.length_cons, List.length_nil])))) | ((with_reducible show wpAny _ _ (call (Value.ref _) _) _ _ _); first | with_reducible ((first | (k_here; (with_reducible show wpAny _ _ (call (Value.ref 93) [Value.int _ _, Value.int _ _]) _ _ _); k_dflt (refine' Tel.useX (need_count_bad _ _ _ _ _ _ ?p1) ?k1 ?k2 ?k3 ?k4 ?k5 ?k6 ?k7 ?k8 ?kr; tm_at "u1"; (case p1 => omega); skip); (intro e9 g9 n9 h9 tk9 F9 U9 R9 hs9)) | (k_here; (with_reducible show wpAny _ _ (call (Value.ref 93) [Value.int _ _, Value.int _ _]) _ _ _); k_dflt (ktr_call z9 (need_count_bad _ _ _ _ _ _ ?p1); (case p1 => omega); skip); (((case kr => exact fun _ _ _ _ _ _ hv9 => (show False from hv9).elim); intro k9 e9 g9 n9 h9 tk9 hk9 F9 U9 R9 hs9; subst hk9; (try dsimp only); (try k_fold)))))) | with_reducible ((first | (k_here; (with_reducible show wpAny _ _ (call (Value.ref 93) [Value.int _ _, Value.int _ _]) _ _ _); k_dflt (refine' Tel.useS (need_count_ok _ _ _ _ _ _ ?p1 ?p2) ?k1 ?k2 ?k3 ?k4 ?k5 ?k6 ?k7 ?k8 ?kr; tm_at "u1"; (case p1 => omega); (case p2 => omega); skip); (intro h9 tk9 F9 N9)) | (k_here; (with_reducible show wpAny _ _ (call (Value.ref 93) [Value.int _ _, Value.int _ _]) _ _ _); k_dflt (ktr_call z9 (need_count_ok _ _ _ _ _ _ ?p1 ?p2); (case p1 => omega); (case p2 => omega); skip); walk_at "my_ret"))) | with_reducible ((first | (k_here; (with_reducible show wpAny _ _ (call (Value.ref 86) [Value.str _ _]) _ _ _); k_dflt (refine' Tel.useS (need_text_s _ _ _ _) ?k1 ?k2 ?k3 ?k4 ?k5 ?k6 ?k7 ?k8 ?kr; tm_at "u1"; skip); (intro h9 tk9 F9 N9)) | (k_here; (with_reducible show wpAny _ _ (call (Value.ref 86) [Value.str _ _]) _ _ _); k_dflt (ktr_call z9 (need_text_s _ _ _ _); skip); walk_at "my_ret")))) | walk1 | (dsimp only; walk1) | (leave1; (try dsimp only)) | fail "no step"))
    all_goals first | (first | exact hexc _ _ _ _ _ _ rfl (by k_asm) (by k_asm) (by k_asm) (by first | exact fun _ h => h | assumption | (intro p9 hp9; (rename (∀ p ∈ _, p ∈ _) => hs9x); exact hs9x p9 (by simp only [List.mem_cons, hp9, or_true]))) | exact hexcN _ _ _ _ _ _ rfl (by k_asm) (by k_asm) (by k_asm) (by first | exact fun _ h => h | assumption | (intro p9 hp9; (rename (∀ p ∈ _, p ∈ _) => hs9x); exact hs9x p9 (by simp only [List.mem_cons, hp9, or_true]))))))) only [↓boxed]
theorem mid7 (w : World) (x : PySem.Str) (t0 : Tok) (hok : PyData.strOk x = true) (hx : x.length ≤ 100) (y : Int) (t1 : Tok) (hy : 1 ≤ y) (hy2 : y ≤ 255) (z : Int) (t2 : Tok) (hz : 0 ≤ z) (hz2 : z ≤ 255) (l k : Nat) (news : List (Addr × Obj)) (h1 : (l, listObj ([.str x t0, .int y t1, .int z t2]) k) ∈ news)  : Tel w 156 [.ref l] 20 200 news (fun v n => IsS (Txt.slice x (some (y - 1)) (some (y - 1 + z))) v ∧ n = news) (fun _ => False) := by
  refine Box.out ?_
  simp (disch :=
    k_dflt ((
    refine keepP ?_
    walk_at "my_go"
    intro lo mean mg mb dp un gd outer A₀ base h₀ L hp0 gn0 dr0 tk0 os0 Q E B F X N T hd0 hu0 hP hret hexcN hexc
    (try dsimp only at F)
    (repeat' (first | (k_unfold; (try dsimp only)) | (k_end; kc_close) | ((with_reducible show wpAny _ _ (subscriptTail _ _ _ _) _ _ _); first | with_reducible ((k_here; (with_reducible show wpAny _ _ (subscriptTail _ _ (Value.ref _) (Value.int _ _)) _ _ _); (with_unfolding_all refine' item_list (News.isList ?n ?m) ?h0 ?hf ?hx ?_ ?hs ?hg; (case n => k_asm); (case m => tm_at "mem"); (case h0 => omega); (case hf => omega); (case hx => first | ((simp only [List.getElem?_toArray, Int.toNat_natCast]); assumption) | exact get0 | exact get1 | exact get2 | exact get3); (case hs => with_unfolding_all rfl); (case hg => intro _; with_unfolding_all rfl); k_whole)))) | ((with_reducible show wpAny _ _ (call (Value.builtin _) _) _ _ _); first | with_reducible ((k_here; (with_reducible show wpAny _ _ (call (Value.builtin _) [Value.ref _]) _ _ _); k_dflt (refine' len_list (News.isList ?n ?m) ?f ?_; (case n => k_asm); (case m => tm_at "mem"); (case f => first | (simp only [List.size_toArray]; omega) | (simp only [List.size_toArray, List.length_cons, List.length_nil]; omega)); k_whole); (try simp only [List.size_toArray, List.length_cons, List.length_nil])))) | ((with_reducible show wpAny _ _ (call (Value.ref _) _) _ _ _); first | with_reducible ((first | (k_here; (with_reducible show wpAny _ _ (call (Value.ref 93) [Value.int _ _, Value.int _ _]) _ _ _); k_dflt (refine' Tel.useS (need_count_ok _ _ _ _ _ _ ?p1 ?p2) ?k1 ?k2 ?k3 ?k4 ?k5 ?k6 ?k7 ?k8 ?kr; tm_at "u1"; (case p1 => omega); (case p2 => omega); skip); (intro h9 tk9 F9 N9)) | (k_here; (with_reducible show wpAny _ _ (call (Value.ref 93) [Value.int _ _, Value.int _ _]) _ _ _); k_dflt (ktr_call z9 (need_count_ok _ _ _ _ _ _ ?p1 ?p2); (case p1 => omega); (case p2 => omega); skip); walk_at "my_ret"))) | with_reducible ((first | (k_here; (with_reducible show wpAny _ _ (call (Value.ref 86) [Value.str _ _]) _ _ _); k_dflt (refine' Tel.useS (need_text_s _ _ _ _) ?k1 ?k2 ?k3 ?k4 ?k5 ?k6 ?k7 ?k8 ?kr; tm_at "u1"; skip); (intro h9 tk9 F9 N9)) | (k_here; (with_reducible show wpAny _ _ (call (Value.ref 86) [Value.str _ _]) _ _ _); k_dflt (ktr_call z9 (need_text_s _ _ _ _); skip); walk_at "my_ret")))) | walk1 | (dsimp only; walk1) | (leave1; (try dsimp only)) | fail "no step"))
    all_goals exact hret _ news _ _ (by k_asm) (by walk_at "my_drop") ⟨⟨_, rfl⟩, rfl⟩))) only [↓boxed]
theorem pl1 (w : World) (x0 : PySem.Str) (t0 : Tok) (v1 v2 : Value) (l k : Nat) (news : List (Addr × Obj)) (h1 : (l, listObj ([.str x0 t0, v1, v2]) k) ∈ news)  : Tel w 163 [.ref l] 20 200 news (fun _ _ => False) (fun k => k = "TM") := by
  refine Box.out ?_
  simp (disch :=
    k_dflt ((
    refine keepP ?_
    walk_at "my_go"
    intro lo mean mg mb dp un gd outer A₀ base h₀ L hp0 gn0 dr0 tk0 os0 Q E B F X N T hd0 hu0 hP hret hexcN hexc
    (try dsimp only at F)
    (repeat' (first | (k_unfold; (try dsimp only)) | (k_end; kc_close) | ((with_reducible show wpAny _ _ (subscriptTail _ _ _ _) _ _ _); first | with_reducible ((k_here; (with_reducible show wpAny _ _ (subscriptTail _ _ (Value.ref _) (Value.int _ _)) _ _ _); (with_unfolding_all refine' item_list (News.isList ?n ?m) ?h0 ?hf ?hx ?_ ?hs ?hg; (case n => k_asm); (case m => tm_at "mem"); (case h0 => omega); (case hf => omega); (case hx => first | ((simp only [List.getElem?_toArray, Int.toNat_natCast]); assumption) | exact get0 | exact get1 | exact get2 | exact get3); (case hs => with_unfolding_all rfl); (case hg => intro _; with_unfolding_all rfl); k_whole)))) | ((with_reducible show wpAny _ _ (call (Value.builtin _) _) _ _ _); first | with_reducible ((k_here; (with_reducible show wpAny _ _ (call (Value.builtin _) [Value.ref _]) _ _ _); k_dflt (refine' len_list (News.isList ?n ?m) ?f ?_; (case n => k_asm); (case m => tm_at "mem"); (case f => first | (simp only [List.size_toArray]; omega) | (simp only [List.size_toArray, List.length_cons, List.length_nil]; omega)); k_whole); (try simp only [List.size_toArray, List.length_cons, List.length_nil])))) | ((with_reducible show wpAny _ _ (call (Value.ref _) _) _ _ _); first | with_reducible ((first | (k_here; (with_reducible show wpAny _ _ (call (Value.ref 93) [Value.str _ _, Value.int _ _]) _ _ _); k_dflt (refine' Tel.useX (need_count_s _ _ _ _ _ _) ?k1 ?k2 ?k3 ?k4 ?k5 ?k6 ?k7 ?k8 ?kr; tm_at "u1"; skip); (intro e9 g9 n9 h9 tk9 F9 U9 R9 hs9)) | (k_here; (with_reducible show wpAny _ _ (call (Value.ref 93) [Value.str _ _, Value.int _ _]) _ _ _); k_dflt (ktr_call z9 (need_count_s _ _ _ _ _ _); skip); (((case kr => exact fun _ _ _ _ _ _ hv9 => (show False from hv9).elim); intro k9 e9 g9 n9 h9 tk9 hk9 F9 U9 R9 hs9; subst hk9; (try dsimp only); (try k_fold))))))) | walk1 | (dsimp only; walk1) | (leave1; (try dsimp only)) | fail "no step"))
    all_goals first | (first | exact hexc _ _ _ _ _ _ rfl (by k_asm) (by k_asm) (by k_asm) (by first | exact fun _ h => h | assumption | (intro p9 hp9; (rename (∀ p ∈ _, p ∈ _) => hs9x); exact hs9x p9 (by simp only [List.mem_cons, hp9, or_true]))) | exact hexcN _ _ _ _ _ _ rfl (by k_asm) (by k_asm) (by k_asm) (by first | exact fun _ h => h | assumption | (intro p9 hp9; (rename (∀ p ∈ _, p ∈ _) => hs9x); exact hs9x p9 (by simp only [List.mem_cons, hp9, or_true]))))))) only [↓boxed]
theorem pl2 (w : World) (y : Int) (t1 : Tok) (hy : y < 1 ∨ 255 < y) (v1 v2 : Value) (l k : Nat) (news : List (Addr × Obj)) (h1 : (l, listObj ([.int y t1, v1, v2]) k) ∈ news)  : Tel w 163 [.ref l] 20 200 news (fun _ _ => False) (fun k => k = "FC") := by
  refine Box.out ?_
  simp (disch :=
    k_dflt ((
    refine keepP ?_
    walk_at "my_go"
    intro lo mean mg mb dp un gd outer A₀ base h₀ L hp0 gn0 dr0 tk0 os0 Q E B F X N T hd0 hu0 hP hret hexcN hexc
    (try dsimp only at F)
    (repeat' (first | (k_unfold; (try dsimp only)) | (k_end; kc_close) | ((with_reducible show wpAny _ _ (subscriptTail _ _ _ _) _ _ _); first | with_reducible ((k_here; (with_reducible show wpAny _ _ (subscriptTail _ _ (Value.ref _) (Value.int _ _)) _ _ _); (with_unfolding_all refine' item_list (News.isList ?n ?m) ?h0 ?hf ?hx ?_ ?hs ?hg; (case n => k_asm); (case m => tm_at "mem"); (case h0 => omega); (case hf => omega); (case hx => first | ((simp only [List.getElem?_toArray, Int.toNat_natCast]); assumption) | exact get0 | exact get1 | exact get2 | exact get3); (case hs => with_unfolding_all rfl); (case hg => intro _; with_unfolding_all rfl); k_whole)))) | ((with_reducible show wpAny _ _ (call (Value.builtin _) _) _ _ _); first | with_reducible ((k_here; (with_reducible show wpAny _ _ (call (Value.builtin _) [Value.ref _]) _ _ _); k_dflt (refine' len_list (News.isList ?n ?m) ?f ?_; (case n => k_asm); (case m => tm_at "mem"); (case f => first | (simp only [List.size_toArray]; omega) | (simp only [List.size_toArray, List.length_cons, List.length_nil]; omega)); k_whole); (try simp only [List.size_toArray, List.length_cons, List.length_nil])))) | ((with_reducible show wpAny _ _ (call (Value.ref _) _) _ _ _); first | with_reducible ((first | (k_here; (with_reducible show wpAny _ _ (call (Value.ref 93) [Value.int _ _, Value.int _ _]) _ _ _); k_dflt (refine' Tel.useX (need_count_bad _ _ _ _ _ _ ?p1) ?k1 ?k2 ?k3 ?k4 ?k5 ?k6 ?k7 ?k8 ?kr; tm_at "u1"; (case p1 => omega); skip); (intro e9 g9 n9 h9 tk9 F9 U9 R9 hs9)) | (k_here; (with_reducible show wpAny _ _ (call (Value.ref 93) [Value.int _ _, Value.int _ _]) _ _ _); k_dflt (ktr_call z9 (need_count_bad _ _ _ _ _ _ ?p1); (case p1 => omega); skip); (((case kr => exact fun _ _ _ _ _ _ hv9 => (show False from hv9).elim); intro k9 e9 g9 n9 h9 tk9 hk9 F9 U9 R9 hs9; subst hk9; (try dsimp only); (try k_fold))))))) | walk1 | (dsimp only; walk1) | (leave1; (try dsimp only)) | fail "no step"))
    all_goals first | (first | exact hexc _ _ _ _ _ _ rfl (by k_asm) (by k_asm) (by k_asm) (by first | exact fun _ h => h | assumption | (intro p9 hp9; (rename (∀ p ∈ _, p ∈ _) => hs9x); exact hs9x p9 (by simp only [List.mem_cons, hp9, or_true]))) | exact hexcN _ _ _ _ _ _ rfl (by k_asm) (by k_asm) (by k_asm) (by first | exact fun _ h => h | assumption | (intro p9 hp9; (rename (∀ p ∈ _, p ∈ _) => hs9x); exact hs9x p9 (by simp only [List.mem_cons, hp9, or_true]))))))) only [↓boxed]
theorem pl3 (w : World) (y : Int) (t1 : Tok) (hy : 1 ≤ y) (hy2 : y ≤ 255) (z : Int) (t2 : Tok) (v2 : Value) (l k : Nat) (news : List (Addr × Obj)) (h1 : (l, listObj ([.int y t1, .int z t2, v2]) k) ∈ news)  : Tel w 163 [.ref l] 20 200 news (fun _ _ => False) (fun k => k = "TM") := by
  refine Box.out ?_
  simp (disch :=
    k_dflt ((
    refine keepP ?_
    walk_at "my_go"
    intro lo mean mg mb dp un gd outer A₀ base h₀ L hp0 gn0 dr0 tk0 os0 Q E B F X N T hd0 hu0 hP hret hexcN hexc
    (try dsimp only at F)
    (repeat' (first | (k_unfold; (try dsimp only)) | (k_end; kc_close) | ((with_reducible show wpAny _ _ (subscriptTail _ _ _ _) _ _ _); first | with_reducible ((k_here; (with_reducible show wpAny _ _ (subscriptTail _ _ (Value.ref _) (Value.int _ _)) _ _ _); (with_unfolding_all refine' item_neg (News.isList ?n ?m) ?h0 ?h1 ?hf ?hx ?_ ?hs ?hg; (case h0 => decide); (case n => k_asm); (case m => tm_at "mem"); (case h1 => (simp only [List.size_toArray, List.length_cons, List.length_nil]; decide)); (case hf => decide); (case hx => first | exact getm1_2 | exact getm2_2 | exact getm1_3 | exact getm2_3); (case hs => with_unfolding_all rfl); (case hg => intro _; with_unfolding_all rfl); k_whole))) | with_reducible ((k_here; (with_reducible show wpAny _ _ (subscriptTail _ _ (Value.ref _) (Value.int _ _)) _ _ _); (with_unfolding_all refine' item_list (News.isList ?n ?m) ?h0 ?hf ?hx ?_ ?hs ?hg; (case n => k_asm); (case m => tm_at "mem"); (case h0 => omega); (case hf => omega); (case hx => first | ((simp only [List.getElem?_toArray, Int.toNat_natCast]); assumption) | exact get0 | exact get1 | exact get2 | exact get3); (case hs => with_unfolding_all rfl); (case hg => intro _; with_unfolding_all rfl); k_whole)))) | ((with_reducible show wpAny _ _ (call (Value.builtin _) _) _ _ _); first | with_reducible ((k_here; (with_reducible show wpAny _ _ (call (Value.builtin _) [Value.ref _]) _ _ _); k_dflt (refine' len_list (News.isList ?n ?m) ?f ?_; (case n => k_asm); (case m => tm_at "mem"); (case f => first | (simp only [List.size_toArray]; omega) | (simp only [List.size_toArray, List.length_cons, List.length_nil]; omega)); k_whole); (try simp only [List.size_toArray, List.length_cons, List.length_nil])))) | ((with_reducible show wpAny _ _ (call (Value.ref _) _) _ _ _); first | with_reducible ((first | (k_here; (with_reducible show wpAny _ _ (call (Value.ref 93) [Value.int _ _, Value.int _ _]) _ _ _); k_dflt (refine' Tel.useS (need_count_ok _ _ _ _ _ _ ?p1 ?p2) ?k1 ?k2 ?k3 ?k4 ?k5 ?k6 ?k7 ?k8 ?kr; tm_at "u1"; (case p1 => omega); (case p2 => omega); skip); (intro h9 tk9 F9 N9)) | (k_here; (with_reducible show wpAny _ _ (call (Value.ref 93) [Value.int _ _, Value.int _ _]) _ _ _); k_dflt (ktr_call z9 (need_count_ok _ _ _ _ _ _ ?p1 ?p2); (case p1 => omega); (case p2 => omega); skip); walk_at "my_ret"))) | with_reducible ((first | (k_here; (with_reducible show wpAny _ _ (call (Value.ref 86) [Value.int _ _]) _ _ _); k_dflt (refine' Tel.useX (need_text_i _ _ _ _) ?k1 ?k2 ?k3 ?k4 ?k5 ?k6 ?k7 ?k8 ?kr; tm_at "u1"; skip); (intro e9 g9 n9 h9 tk9 F9 U9 R9 hs9)) | (k_here; (with_reducible show wpAny _ _ (call (Value.ref 86) [Value.int _ _]) _ _ _); k_dflt (ktr_call z9 (need_text_i _ _ _ _); skip); (((case kr => exact fun _ _ _ _ _ _ hv9 => (show False from hv9).elim); intro k9 e9 g9 n9 h9 tk9 hk9 F9 U9 R9 hs9; subst hk9; (try dsimp only); (try k_fold))))))) | walk1 | (dsimp only; walk1) | (leave1; (try dsimp only)) | fail "no step"))
    all_goals first | (first | exact hexc _ _ _ _ _ _ rfl (by k_asm) (by k_asm) (by k_asm) (by first | exact fun _ h => h | assumption | (intro p9 hp9; (rename (∀ p ∈ _, p ∈ _) => hs9x); exact hs9x p9 (by simp only [List.mem_cons, hp9, or_true]))) | exact hexcN _ _ _ _ _ _ rfl (by k_asm) (by k_asm) (by k_asm) (by first | exact fun _ h => h | assumption | (intro p9 hp9; (rename (∀ p ∈ _, p ∈ _) => hs9x); exact hs9x p9 (by simp only [List.mem_cons, hp9, or_true]))))))) only [↓boxed]
theorem pl4 (w : World) (y : Int) (t1 : Tok) (hy : 1 ≤ y) (hy2 : y ≤ 255) (x : PySem.Str) (t0 : Tok) (hok : PyData.strOk x = true) (hx : x.length ≤ 100) (z : Int) (t2 : Tok) (l k : Nat) (news : List (Addr × Obj)) (h1 : (l, listObj ([.int y t1, .str x t0, .int z t2]) k) ∈ news)  : Tel w 163 [.ref l] 20 200 news (fun _ _ => False) (fun k => k = "TM") := by
  refine Box.out ?_
  simp (disch :=
    k_dflt ((
    refine keepP ?_
    walk_at "my_go"
    intro lo mean mg mb dp un gd outer A₀ base h₀ L hp0 gn0 dr0 tk0 os0 Q E B F X N T hd0 hu0 hP hret hexcN hexc
    (try dsimp only at F)
    (repeat' (first | (k_unfold; (try dsimp only)) | (k_end; kc_close) | ((with_reducible show wpAny _ _ (subscriptTail _ _ _ _) _ _ _); first | with_reducible ((k_here; (with_reducible show wpAny _ _ (subscriptTail _ _ (Value.ref _) (Value.int _ _)) _ _ _); (with_unfolding_all refine' item_neg (News.isList ?n ?m) ?h0 ?h1 ?hf ?hx ?_ ?hs ?hg; (case h0 => decide); (case n => k_asm); (case m => tm_at "mem"); (case h1 => (simp only [List.size_toArray, List.length_cons, List.length_nil]; decide)); (case hf => decide); (case hx => first | exact getm1_2 | exact getm2_2 | exact getm1_3 | exact getm2_3); (case hs => with_unfolding_all rfl); (case hg => intro _; with_unfolding_all rfl); k_whole))) | with_reducible ((k_here; (with_reducible show wpAny _ _ (subscriptTail _ _ (Value.ref _) (Value.int _ _)) _ _ _); (with_unfolding_all refine' item_list (News.isList ?n ?m) ?h0 ?hf ?hx ?_ ?hs ?hg; (case n => k_asm); (case m => tm_at "mem"); (case h0 => omega); (case hf => omega); (case hx => first | ((simp only [List.getElem?_toArray, Int.toNat_natCast]); assumption) | exact get0 | exact get1 | exact get2 | exact get3); (case hs => with_unfolding_all rfl); (case hg => intro _; with_unfolding_all rfl); k_whole)))) | ((with_reducible show wpAny _ _ (call (Value.builtin _) _) _ _ _); first | with_reducible ((k_here; (with_reducible show wpAny _ _ (call (Value.builtin _) [Value.ref _]) _ _ _); k_dflt (refine' len_list (News.isList ?n ?m) ?f ?_; (case n => k_asm); (case m => tm_at "mem"); (case f => first | (simp only [List.size_toArray]; omega) | (simp only [List.size_toArray, List.length_cons, List.length_nil]; omega)); k_whole); (try simp only [List.size_toArray, List.length_cons, List.length_nil])))) | ((with_reducible show wpAny _ _ (call (Value.ref _) _) _ _ _); first | with_reducible ((first | (k_here; (with_reducible show wpAny _ _ (call (Value.ref 93) [Value.int _ _, Value.int _ _]) _ _ _); k_dflt (refine' Tel.useS (need_count_ok _ _ _ _ _ _ ?p1 ?p2) ?k1 ?k2 ?k3 ?k4 ?k5 ?k6 ?k7 ?k8 ?kr; tm_at "u1"; (case p1 => omega); (case p2 => omega); skip); (intro h9 tk9 F9 N9)) | (k_here; (with_reducible show wpAny _ _ (call (Value.ref 93) [Value.int _ _, Value.int _ _]) _ _ _); k_dflt (ktr_call z9 (need_count_ok _ _ _ _ _ _ ?p1 ?p2); (case p1 => omega); (case p2 => omega); skip); walk_at "my_ret"))) | with_reducible ((first | (k_here; (with_reducible show wpAny _ _ (call (Value.ref 86) [Value.str _ _]) _ _ _); k_dflt (refine' Tel.useS (need_text_s _ _ _ _) ?k1 ?k2 ?k3 ?k4 ?k5 ?k6 ?k7 ?k8 ?kr; tm_at "u1"; skip); (intro h9 tk9 F9 N9)) | (k_here; (with_reducible show wpAny _ _ (call (Value.ref 86) [Value.str _ _]) _ _ _); k_dflt (ktr_call z9 (need_text_s _ _ _ _); skip); walk_at "my_ret"))) | with_reducible ((first | (k_here; (with_reducible show wpAny _ _ (call (Value.ref 86) [Value.int _ _]) _ _ _); k_dflt (refine' Tel.useX (need_text_i _ _ _ _) ?k1 ?k2 ?k3 ?k4 ?k5 ?k6 ?k7 ?k8 ?kr; tm_at "u1"; skip); (intro e9 g9 n9 h9 tk9 F9 U9 R9 hs9)) | (k_here; (with_reducible show wpAny _ _ (call (Value.ref 86) [Value.int _ _]) _ _ _); k_dflt (ktr_call z9 (need_text_i _ _ _ _); skip); (((case kr => exact fun _ _ _ _ _ _ hv9 => (show False from hv9).elim); intro k9 e9 g9 n9 h9 tk9 hk9 F9 U9 R9 hs9; subst hk9; (try dsimp only); (try k_fold))))))) | walk1 | (dsimp only; walk1) | (leave1; (try dsimp only)) | fail "no step"))
    all_goals first | (first | exact hexc _ _ _ _ _ _ rfl (by k_asm) (by k_asm) (by k_asm) (by first | exact fun _ h => h | assumption | (intro p9 hp9; (rename (∀ p ∈ _, p ∈ _) => hs9x); exact hs9x p9 (by simp only [List.mem_cons, hp9, or_true]))) | exact hexcN _ _ _ _ _ _ rfl (by k_asm) (by k_asm) (by k_asm) (by first | exact fun _ h => h | assumption | (intro p9 hp9; (rename (∀ p ∈ _, p ∈ _) => hs9x); exact hs9x p9 (by simp only [List.mem_cons, hp9, or_true]))))))) only [↓boxed]
theorem pl5 (w : World) (y : Int) (t1 : Tok) (hy : 1 ≤ y) (hy2 : y ≤ 255) (x : PySem.Str) (t0 : Tok) (hok : PyData.strOk x = true) (hx : x.length ≤ 100) (x2 : PySem.Str) (t2 : Tok) (hok2 : PyData.strOk x2 = true) (hxx : x2.length ≤ 100) (l k : Nat) (news : List (Addr × Obj)) (h1 : (l, listObj ([.int y t1, .str x t0, .str x2 t2]) k) ∈ news)  : Tel w 163 [.ref l] 20 200 news (fun v n => IsI (plV y x x2) v ∧ n = news) (fun _ => False) := by
  refine Box.out ?_
  simp (disch :=
    k_dflt ((
    refine keepP ?_
    walk_at "my_go"
    intro lo mean mg mb dp un gd outer A₀ base h₀ L hp0 gn0 dr0 tk0 os0 Q E B F X N T hd0 hu0 hP hret hexcN hexc
    (try dsimp only at F)
    (repeat' (first | (k_unfold; (try dsimp only)) | (k_end; kc_close) | ((with_reducible show wpAny _ _ (subscriptTail _ _ _ _) _ _ _); first | with_reducible ((k_here; (with_reducible show wpAny _ _ (subscriptTail _ _ (Value.ref _) (Value.int _ _)) _ _ _); (with_unfolding_all refine' item_neg (News.isList ?n ?m) ?h0 ?h1 ?hf ?hx ?_ ?hs ?hg; (case h0 => decide); (case n => k_asm); (case m => tm_at "mem"); (case h1 => (simp only [List.size_toArray, List.length_cons, List.length_nil]; decide)); (case hf => decide); (case hx => first | exact getm1_2 | exact getm2_2 | exact getm1_3 | exact getm2_3); (case hs => with_unfolding_all rfl); (case hg => intro _; with_unfolding_all rfl); k_whole))) | with_reducible ((k_here; (with_reducible show wpAny _ _ (subscriptTail _ _ (Value.ref _) (Value.int _ _)) _ _ _); (with_unfolding_all refine' item_list (News.isList ?n ?m) ?h0 ?hf ?hx ?_ ?hs ?hg; (case n => k_asm); (case m => tm_at "mem"); (case h0 => omega); (case hf => omega); (case hx => first | ((simp only [List.getElem?_toArray, Int.toNat_natCast]); assumption) | exact get0 | exact get1 | exact get2 | exact get3); (case hs => with_unfolding_all rfl); (case hg => intro _; with_unfolding_all rfl); k_whole)))) | ((with_reducible show wpAny _ _ (call (Value.builtin _) _) _ _ _); first | with_reducible ((k_here; (with_reducible show wpAny _ _ (call (Value.builtin _) [Value.ref _]) _ _ _); k_dflt (refine' len_list (News.isList ?n ?m) ?f ?_; (case n => k_asm); (case m => tm_at "mem"); (case f => first | (simp only [List.size_toArray]; omega) | (simp only [List.size_toArray, List.length_cons, List.length_nil]; omega)); k_whole); (try simp only [List.size_toArray, List.length_cons, List.length_nil])))) | ((with_reducible show wpAny _ _ (call (Value.ref _) _) _ _ _); first | with_reducible ((first | (k_here; (with_reducible show wpAny _ _ (call (Value.ref 93) [Value.int _ _, Value.int _ _]) _ _ _); k_dflt (refine' Tel.useS (need_count_ok _ _ _ _ _ _ ?p1 ?p2) ?k1 ?k2 ?k3 ?k4 ?k5 ?k6 ?k7 ?k8 ?kr; tm_at "u1"; (case p1 => omega); (case p2 => omega); skip); (intro h9 tk9 F9 N9)) | (k_here; (with_reducible show wpAny _ _ (call (Value.ref 93) [Value.int _ _, Value.int _ _]) _ _ _); k_dflt (ktr_call z9 (need_count_ok _ _ _ _ _ _ ?p1 ?p2); (case p1 => omega); (case p2 => omega); skip); walk_at "my_ret"))) | with_reducible ((first | (k_here; (with_reducible show wpAny _ _ (call (Value.ref 86) [Value.str _ _]) _ _ _); k_dflt (refine' Tel.useS (need_text_s _ _ _ _) ?k1 ?k2 ?k3 ?k4 ?k5 ?k6 ?k7 ?k8 ?kr; tm_at "u1"; skip); (intro h9 tk9 F9 N9)) | (k_here; (with_reducible show wpAny _ _ (call (Value.ref 86) [Value.str _ _]) _ _ _); k_dflt (ktr_call z9 (need_text_s _ _ _ _); skip); walk_at "my_ret")))) | walk1 | (dsimp only; walk1) | (leave1; (try dsimp only)) | fail "no step"))
    all_goals refine hret _ news _ _ (by k_asm) (by walk_at "my_drop") ⟨⟨_, congrArg (fun z => Value.int z _) ?_⟩, rfl⟩
    all_goals (unfold plV; first | rw [if_pos (by omega)] | rw [if_neg (by omega)])))) only [↓boxed]
theorem pl6 (w : World) (z : Int) (t1 : Tok) (v2 : Value) (l k : Nat) (news : List (Addr × Obj)) (h1 : (l, listObj ([.int z t1, v2]) k) ∈ news)  : Tel w 163 [.ref l] 20 200 news (fun _ _ => False) (fun k => k = "TM") := by
  refine Box.out ?_
  simp (disch :=
    k_dflt ((
    refine keepP ?_
    walk_at "my_go"
    intro lo mean mg mb dp un gd outer A₀ base h₀ L hp0 gn0 dr0 tk0 os0 Q E B F X N T hd0 hu0 hP hret hexcN hexc
    (try dsimp only at F)
    (repeat' (first | (k_unfold; (try dsimp only)) | (k_end; kc_close) | ((with_reducible show wpAny _ _ (subscriptTail _ _ _ _) _ _ _); first | with_reducible ((k_here; (with_reducible show wpAny _ _ (subscriptTail _ _ (Value.ref _) (Value.int _ _)) _ _ _); (with_unfolding_all refine' item_neg (News.isList ?n ?m) ?h0 ?h1 ?hf ?hx ?_ ?hs ?hg; (case h0 => decide); (case n => k_asm); (case m => tm_at "mem"); (case h1 => (simp only [List.size_toArray, List.length_cons, List.length_nil]; decide)); (case hf => decide); (case hx => first | exact getm1_2 | exact getm2_2 | exact getm1_3 | exact getm2_3); (case hs => with_unfolding_all rfl); (case hg => intro _; with_unfolding_all rfl); k_whole)))) | ((with_reducible show wpAny _ _ (call (Value.builtin _) _) _ _ _); first | with_reducible ((k_here; (with_reducible show wpAny _ _ (call (Value.builtin _) [Value.ref _]) _ _ _); k_dflt (refine' len_list (News.isList ?n ?m) ?f ?_; (case n => k_asm); (case m => tm_at "mem"); (case f => first | (simp only [List.size_toArray]; omega) | (simp only [List.size_toArray, List.length_cons, List.length_nil]; omega)); k_whole); (try simp only [List.size_toArray, List.length_cons, List.length_nil])))) | ((with_reducible show wpAny _ _ (call (Value.ref _) _) _ _ _); first | with_reducible ((first | (k_here; (with_reducible show wpAny _ _ (call (Value.ref 86) [Value.int _ _]) _ _ _); k_dflt (refine' Tel.useX (need_text_i _ _ _ _) ?k1 ?k2 ?k3 ?k4 ?k5 ?k6 ?k7 ?k8 ?kr; tm_at "u1"; skip); (intro e9 g9 n9 h9 tk9 F9 U9 R9 hs9)) | (k_here; (with_reducible show wpAny _ _ (call (Value.ref 86) [Value.int _ _]) _ _ _); k_dflt (ktr_call z9 (need_text_i _ _ _ _); skip); (((case kr => exact fun _ _ _ _ _ _ hv9 => (show False from hv9).elim); intro k9 e9 g9 n9 h9 tk9 hk9 F9 U9 R9 hs9; subst hk9; (try dsimp only); (try k_fold))))))) | walk1 | (dsimp only; walk1) | (leave1; (try dsimp only)) | fail "no step"))
    all_goals first | (first | exact hexc _ _ _ _ _ _ rfl (by k_asm) (by k_asm) (by k_asm) (by first | exact fun _ h => h | assumption | (intro p9 hp9; (rename (∀ p ∈ _, p ∈ _) => hs9x); exact hs9x p9 (by simp only [List.mem_cons, hp9, or_true]))) | exact hexcN _ _ _ _ _ _ rfl (by k_asm) (by k_asm) (by k_asm) (by first | exact fun _ h => h | assumption | (intro p9 hp9; (rename (∀ p ∈ _, p ∈ _) => hs9x); exact hs9x p9 (by simp only [List.mem_cons, hp9, or_true]))))))) only [↓boxed]
theorem pl7 (w : World) (x : PySem.Str) (t0 : Tok) (hok : PyData.strOk x = true) (hx : x.length ≤ 100) (z : Int) (t2 : Tok) (l k : Nat) (news : List (Addr × Obj)) (h1 : (l, listObj ([.str x t0, .int z t2]) k) ∈ news)  : Tel w 163 [.ref l] 20 200 news (fun _ _ => False) (fun k => k = "TM") := by
  refine Box.out ?_
  simp (disch :=
    k_dflt ((
    refine keepP ?_
    walk_at "my_go"
    intro lo mean mg mb dp un gd outer A₀ base h₀ L hp0 gn0 dr0 tk0 os0 Q E B F X N T hd0 hu0 hP hret hexcN hexc
    (try dsimp only at F)
    (repeat' (first | (k_unfold; (try dsimp only)) | (k_end; kc_close) | ((with_reducible show wpAny _ _ (subscriptTail _ _ _ _) _ _ _); first | with_reducible ((k_here; (with_reducible show wpAny _ _ (subscriptTail _ _ (Value.ref _) (Value.int _ _)) _ _ _); (with_unfolding_all refine' item_neg (News.isList ?n ?m) ?h0 ?h1 ?hf ?hx ?_ ?hs ?hg; (case h0 => decide); (case n => k_asm); (case m => tm_at "mem"); (case h1 => (simp only [List.size_toArray, List.length_cons, List.length_nil]; decide)); (case hf => decide); (case hx => first | exact getm1_2 | exact getm2_2 | exact getm1_3 | exact getm2_3); (case hs => with_unfolding_all rfl); (case hg => intro _; with_unfolding_all rfl); k_whole)))) | ((with_reducible show wpAny _ _ (call (Value.builtin _) _) _ _ _); first | with_reducible ((k_here; (with_reducible show wpAny _ _ (call (Value.builtin _) [Value.ref _]) _ _ _); k_dflt (refine' len_list (News.isList ?n ?m) ?f ?_; (case n => k_asm); (case m => tm_at "mem"); (case f => first | (simp only [List.size_toArray]; omega) | (simp only [List.size_toArray, List.length_cons, List.length_nil]; omega)); k_whole); (try simp only [List.size_toArray, List.length_cons, List.length_nil])))) | ((with_reducible show wpAny _ _ (call (Value.ref _) _) _ _ _); first | with_reducible ((first | (k_here; (with_reducible show wpAny _ _ (call (Value.ref 86) [Value.str _ _]) _ _ _); k_dflt (refine' Tel.useS (need_text_s _ _ _ _) ?k1 ?k2 ?k3 ?k4 ?k5 ?k6 ?k7 ?k8 ?kr; tm_at "u1"; skip); (intro h9 tk9 F9 N9)) | (k_here; (with_reducible show wpAny _ _ (call (Value.ref 86) [Value.str _ _]) _ _ _); k_dflt (ktr_call z9 (need_text_s _ _ _ _); skip); walk_at "my_ret"))) | with_reducible ((first | (k_here; (with_reducible show wpAny _ _ (call (Value.ref 86) [Value.int _ _]) _ _ _); k_dflt (refine' Tel.useX (need_text_i _ _ _ _) ?k1 ?k2 ?k3 ?k4 ?k5 ?k6 ?k7 ?k8 ?kr; tm_at "u1"; skip); (intro e9 g9 n9 h9 tk9 F9 U9 R9 hs9)) | (k_here; (with_reducible show wpAny _ _ (call (Value.ref 86) [Value.int _ _]) _ _ _); k_dflt (ktr_call z9 (need_text_i _ _ _ _); skip); (((case kr => exact fun _ _ _ _ _ _ hv9 => (show False from hv9).elim); intro k9 e9 g9 n9 h9 tk9 hk9 F9 U9 R9 hs9; subst hk9; (try dsimp only); (try k_fold))))))) | walk1 | (dsimp only; walk1) | (leave1; (try dsimp only)) | fail "no step"))
    all_goals first | (first | exact hexc _ _ _ _ _ _ rfl (by k_asm) (by k_asm) (by k_asm) (by first | exact fun _ h => h | assumption | (intro p9 hp9; (rename (∀ p ∈ _, p ∈ _) => hs9x); exact hs9x p9 (by simp only [List.mem_cons, hp9, or_true]))) | exact hexcN _ _ _ _ _ _ rfl (by k_asm) (by k_asm) (by k_asm) (by first | exact fun _ h => h | assumption | (intro p9 hp9; (rename (∀ p ∈ _, p ∈ _) => hs9x); exact hs9x p9 (by simp only [List.mem_cons, hp9, or_true]))))))) only [↓boxed]
theorem pl8 (w : World) (x : PySem.Str) (t0 : Tok) (hok : PyData.strOk x = true) (hx : x.length ≤ 100) (x2 : PySem.Str) (t2 : Tok) (hok2 : PyData.strOk x2 = true) (hxx : x2.length ≤ 100) (l k : Nat) (news : List (Addr × Obj)) (h1 : (l, listObj ([.str x t0, .str x2 t2]) k) ∈ news)  : Tel w 163 [.ref l] 20 200 news (fun v n => IsI (plV 1 x x2) v ∧ n = news) (fun _ => False) := by
  refine Box.out ?_
  simp (disch :=
    k_dflt ((
    refine keepP ?_
    walk_at "my_go"
    intro lo mean mg mb dp un gd outer A₀ base h₀ L hp0 gn0 dr0 tk0 os0 Q E B F X N T hd0 hu0 hP hret hexcN hexc
    (try dsimp only at F)
    (repeat' (first | (k_unfold; (try dsimp only)) | (k_end; kc_close) | ((with_reducible show wpAny _ _ (subscriptTail _ _ _ _) _ _ _); first | with_reducible ((k_here; (with_reducible show wpAny _ _ (subscriptTail _ _ (Value.ref _) (Value.int _ _)) _ _ _); (with_unfolding_all refine' item_neg (News.isList ?n ?m) ?h0 ?h1 ?hf ?hx ?_ ?hs ?hg; (case h0 => decide); (case n => k_asm); (case m => tm_at "mem"); (case h1 => (simp only [List.size_toArray, List.length_cons, List.length_nil]; decide)); (case hf => decide); (case hx => first | exact getm1_2 | exact getm2_2 | exact getm1_3 | exact getm2_3); (case hs => with_unfolding_all rfl); (case hg => intro _; with_unfolding_all rfl); k_whole)))) | ((with_reducible show wpAny _ _ (call (Value.builtin _) _) _ _ _); first | with_reducible ((k_here; (with_reducible show wpAny _ _ (call (Value.builtin _) [Value.ref _]) _ _ _); k_dflt (refine' len_list (News.isList ?n ?m) ?f ?_; (case n => k_asm); (case m => tm_at "mem"); (case f => first | (simp only [List.size_toArray]; omega) | (simp only [List.size_toArray, List.length_cons, List.length_nil]; omega)); k_whole); (try simp only [List.size_toArray, List.length_cons, List.length_nil])))) | ((with_reducible show wpAny _ _ (call (Value.ref _) _) _ _ _); first | with_reducible ((first | (k_here; (with_reducible show wpAny _ _ (call (Value.ref 86) [Value.str _ _]) _ _ _); k_dflt (refine' Tel.useS (need_text_s _ _ _ _) ?k1 ?k2 ?k3 ?k4 ?k5 ?k6 ?k7 ?k8 ?kr; tm_at "u1"; skip); (intro h9 tk9 F9 N9)) | (k_here; (with_reducible show wpAny _ _ (call (Value.ref 86) [Value.str _ _]) _ _ _); k_dflt (ktr_call z9 (need_text_s _ _ _ _); skip); walk_at "my_ret")))) | walk1 | (dsimp only; walk1) | (leave1; (try dsimp only)) | fail "no step"))
    all_goals refine hret _ news _ _ (by k_asm) (by walk_at "my_drop") ⟨⟨_, congrArg (fun z => Value.int z _) ?_⟩, rfl⟩
    all_goals (unfold plV; first | rw [if_pos (by omega)] | rw [if_neg (by omega)])))) only [↓boxed]
theorem ot_len_i (w : World) (t : Tok) (y : Int) (t0 : Tok) (r : List Value) (l k : Nat) (news : List (Addr × Obj)) (h1 : (l, listObj (.int y t0 :: r) k) ∈ news)  : Tel w 170 [.str "LEN" t, .ref l] 40 400 news (fun _ _ => False) (fun k => k = "TM") := by
  refine Box.out ?_
  simp (disch :=
    k_dflt ((
    refine keepP ?_
    walk_at "my_go"
    intro lo mean mg mb dp un gd outer A₀ base h₀ L hp0 gn0 dr0 tk0 os0 Q E B F X N T hd0 hu0 hP hret hexcN hexc
    (try dsimp only at F)
    (repeat' (first | (k_unfold; (try dsimp only)) | (k_end; kc_close) | ((with_reducible show wpAny _ _ (subscriptTail _ _ _ _) _ _ _); first | with_reducible ((k_here; (with_reducible show wpAny _ _ (subscriptTail _ _ (Value.ref _) (Value.int _ _)) _ _ _); (with_unfolding_all refine' item_list (News.isList ?n ?m) ?h0 ?hf ?hx ?_ ?hs ?hg; (case n => k_asm); (case m => tm_at "mem"); (case h0 => omega); (case hf => omega); (case hx => first | ((simp only [List.getElem?_toArray, Int.toNat_natCast]); assumption) | exact get0 | exact get1 | exact get2 | exact get3); (case hs => with_unfolding_all rfl); (case hg => intro _; with_unfolding_all rfl); k_whole)))) | ((with_reducible show wpAny _ _ (call (Value.ref _) _) _ _ _); first | with_reducible ((first | (k_here; (with_reducible show wpAny _ _ (call (Value.ref 86) [Value.int _ _]) _ _ _); k_dflt (refine' Tel.useX (need_text_i _ _ _ _) ?k1 ?k2 ?k3 ?k4 ?k5 ?k6 ?k7 ?k8 ?kr; tm_at "u1"; skip); (intro e9 g9 n9 h9 tk9 F9 U9 R9 hs9)) | (k_here; (with_reducible show wpAny _ _ (call (Value.ref 86) [Value.int _ _]) _ _ _); k_dflt (ktr_call z9 (need_text_i _ _ _ _); skip); (((case kr => exact fun _ _ _ _ _ _ hv9 => (show False from hv9).elim); intro k9 e9 g9 n9 h9 tk9 hk9 F9 U9 R9 hs9; subst hk9; (try dsimp only); (try k_fold))))))) | walk1 | (dsimp only; walk1) | (leave1; (try dsimp only)) | fail "no step"))
    all_goals first | (first | exact hexc _ _ _ _ _ _ rfl (by k_asm) (by k_asm) (by k_asm) (by first | exact fun _ h => h | assumption | (intro p9 hp9; (rename (∀ p ∈ _, p ∈ _) => hs9x); exact hs9x p9 (by simp only [List.mem_cons, hp9, or_true]))) | exact hexcN _ _ _ _ _ _ rfl (by k_asm) (by k_asm) (by k_asm) (by first | exact fun _ h => h | assumption | (intro p9 hp9; (rename (∀ p ∈ _, p ∈ _) => hs9x); exact hs9x p9 (by simp only [List.mem_cons, hp9, or_true]))))))) only [↓boxed]
theorem ot_val_i (w : World) (t : Tok) (y : Int) (t0 : Tok) (r : List Value) (l k : Nat) (news : List (Addr × Obj)) (h1 : (l, listObj (.int y t0 :: r) k) ∈ news)  : Tel w 170 [.str "VAL" t, .ref l] 40 400 news (fun _ _ => False) (fun k => k = "TM") := by
  refine Box.out ?_
  simp (disch :=
    k_dflt ((
    refine keepP ?_
    walk_at "my_go"
    intro lo mean mg mb dp un gd outer A₀ base h₀ L hp0 gn0 dr0 tk0 os0 Q E B F X N T hd0 hu0 hP hret hexcN hexc
    (try dsimp only at F)
    (repeat' (first | (k_unfold; (try dsimp only)) | (k_end; kc_close) | ((with_reducible show wpAny _ _ (subscriptTail _ _ _ _) _ _ _); first | with_reducible ((k_here; (with_reducible show wpAny _ _ (subscriptTail _ _ (Value.ref _) (Value.int _ _)) _ _ _); (with_unfolding_all refine' item_list (News.isList ?n ?m) ?h0 ?hf ?hx ?_ ?hs ?hg; (case n => k_asm); (case m => tm_at "mem"); (case h0 => omega); (case hf => omega); (case hx => first | ((simp only [List.getElem?_toArray, Int.toNat_natCast]); assumption) | exact get0 | exact get1 | exact get2 | exact get3); (case hs => with_unfolding_all rfl); (case hg => intro _; with_unfolding_all rfl); k_whole)))) | ((with_reducible show wpAny _ _ (call (Value.ref _) _) _ _ _); first | with_reducible ((first | (k_here; (with_reducible show wpAny _ _ (call (Value.ref 86) [Value.int _ _]) _ _ _); k_dflt (refine' Tel.useX (need_text_i _ _ _ _) ?k1 ?k2 ?k3 ?k4 ?k5 ?k6 ?k7 ?k8 ?kr; tm_at "u1"; skip); (intro e9 g9 n9 h9 tk9 F9 U9 R9 hs9)) | (k_here; (with_reducible show wpAny _ _ (call (Value.ref 86) [Value.int _ _]) _ _ _); k_dflt (ktr_call z9 (need_text_i _ _ _ _); skip); (((case kr => exact fun _ _ _ _ _ _ hv9 => (show False from hv9).elim); intro k9 e9 g9 n9 h9 tk9 hk9 F9 U9 R9 hs9; subst hk9; (try dsimp only); (try k_fold))))))) | walk1 | (dsimp only; walk1) | (leave1; (try dsimp only)) | fail "no step"))
    all_goals first | (first | exact hexc _ _ _ _ _ _ rfl (by k_asm) (by k_asm) (by k_asm) (by first | exact fun _ h => h | assumption | (intro p9 hp9; (rename (∀ p ∈ _, p ∈ _) => hs9x); exact hs9x p9 (by simp only [List.mem_cons, hp9, or_true]))) | exact hexcN _ _ _ _ _ _ rfl (by k_asm) (by k_asm) (by k_asm) (by first | exact fun _ h => h | assumption | (intro p9 hp9; (rename (∀ p ∈ _, p ∈ _) => hs9x); exact hs9x p9 (by simp only [List.mem_cons, hp9, or_true]))))))) only [↓boxed]
theorem ot_asc_i (w : World) (t : Tok) (y : Int) (t0 : Tok) (r : List Value) (l k : Nat) (news : List (Addr × Obj)) (h1 : (l, listObj (.int y t0 :: r) k) ∈ news)  : Tel w 170 [.str "ASC" t, .ref l] 40 400 news (fun _ _ => False) (fun k => k = "TM") := by
  refine Box.out ?_
  simp (disch :=
    k_dflt ((
    refine keepP ?_
    walk_at "my_go"
    intro lo mean mg mb dp un gd outer A₀ base h₀ L hp0 gn0 dr0 tk0 os0 Q E B F X N T hd0 hu0 hP hret hexcN hexc
    (try dsimp only at F)
    (repeat' (first | (k_unfold; (try dsimp only)) | (k_end; kc_close) | ((with_reducible show wpAny _ _ (subscriptTail _ _ _ _) _ _ _); first | with_reducible ((k_here; (with_reducible show wpAny _ _ (subscriptTail _ _ (Value.ref _) (Value.int _ _)) _ _ _); (with_unfolding_all refine' item_list (News.isList ?n ?m) ?h0 ?hf ?hx ?_ ?hs ?hg; (case n => k_asm); (case m => tm_at "mem"); (case h0 => omega); (case hf => omega); (case hx => first | ((simp only [List.getElem?_toArray, Int.toNat_natCast]); assumption) | exact get0 | exact get1 | exact get2 | exact get3); (case hs => with_unfolding_all rfl); (case hg => intro _; with_unfolding_all rfl); k_whole)))) | ((with_reducible show wpAny _ _ (call (Value.ref _) _) _ _ _); first | with_reducible ((first | (k_here; (with_reducible show wpAny _ _ (call (Value.ref 86) [Value.int _ _]) _ _ _); k_dflt (refine' Tel.useX (need_text_i _ _ _ _) ?k1 ?k2 ?k3 ?k4 ?k5 ?k6 ?k7 ?k8 ?kr; tm_at "u1"; skip); (intro e9 g9 n9 h9 tk9 F9 U9 R9 hs9)) | (k_here; (with_reducible show wpAny _ _ (call (Value.ref 86) [Value.int _ _]) _ _ _); k_dflt (ktr_call z9 (need_text_i _ _ _ _); skip); (((case kr => exact fun _ _ _ _ _ _ hv9 => (show False from hv9).elim); intro k9 e9 g9 n9 h9 tk9 hk9 F9 U9 R9 hs9; subst hk9; (try dsimp only); (try k_fold))))))) | walk1 | (dsimp only; walk1) | (leave1; (try dsimp only)) | fail "no step"))
    all_goals first | (first | exact hexc _ _ _ _ _ _ rfl (by k_asm) (by k_asm) (by k_asm) (by first | exact fun _ h => h | assumption | (intro p9 hp9; (rename (∀ p ∈ _, p ∈ _) => hs9x); exact hs9x p9 (by simp only [List.mem_cons, hp9, or_true]))) | exact hexcN _ _ _ _ _ _ rfl (by k_asm) (by k_asm) (by k_asm) (by first | exact fun _ h => h | assumption | (intro p9 hp9; (rename (∀ p ∈ _, p ∈ _) => hs9x); exact hs9x p9 (by simp only [List.mem_cons, hp9, or_true]))))))) only [↓boxed]
theorem ot_left_i (w : World) (t : Tok) (y : Int) (t0 : Tok) (r : List Value) (l k : Nat) (news : List (Addr × Obj)) (h1 : (l, listObj (.int y t0 :: r) k) ∈ news)  : Tel w 170 [.str "LEFT$" t, .ref l] 40 400 news (fun _ _ => False) (fun k => k = "TM") := by
  refine Box.out ?_
  simp (disch :=
    k_dflt ((
    refine keepP ?_
    walk_at "my_go"
    intro lo mean mg mb dp un gd outer A₀ base h₀ L hp0 gn0 dr0 tk0 os0 Q E B F X N T hd0 hu0 hP hret hexcN hexc
    (try dsimp only at F)
    (repeat' (first | (k_unfold; (try dsimp only)) | (k_end; kc_close) | ((with_reducible show wpAny _ _ (subscriptTail _ _ _ _) _ _ _); first | with_reducible ((k_here; (with_reducible show wpAny _ _ (subscriptTail _ _ (Value.ref _) (Value.int _ _)) _ _ _); (with_unfolding_all refine' item_list (News.isList ?n ?m) ?h0 ?hf ?hx ?_ ?hs ?hg; (case n => k_asm); (case m => tm_at "mem"); (case h0 => omega); (case hf => omega); (case hx => first | ((simp only [List.getElem?_toArray, Int.toNat_natCast]); assumption) | exact get0 | exact get1 | exact get2 | exact get3); (case hs => with_unfolding_all rfl); (case hg => intro _; with_unfolding_all rfl); k_whole)))) | ((with_reducible show wpAny _ _ (call (Value.ref _) _) _ _ _); first | with_reducible ((first | (k_here; (with_reducible show wpAny _ _ (call (Value.ref 86) [Value.int _ _]) _ _ _); k_dflt (refine' Tel.useX (need_text_i _ _ _ _) ?k1 ?k2 ?k3 ?k4 ?k5 ?k6 ?k7 ?k8 ?kr; tm_at "u1"; skip); (intro e9 g9 n9 h9 tk9 F9 U9 R9 hs9)) | (k_here; (with_reducible show wpAny _ _ (call (Value.ref 86) [Value.int _ _]) _ _ _); k_dflt (ktr_call z9 (need_text_i _ _ _ _); skip); (((case kr => exact fun _ _ _ _ _ _ hv9 => (show False from hv9).elim); intro k9 e9 g9 n9 h9 tk9 hk9 F9 U9 R9 hs9; subst hk9; (try dsimp only); (try k_fold))))))) | walk1 | (dsimp only; walk1) | (leave1; (try dsimp only)) | fail "no step"))
    all_goals first | (first | exact hexc _ _ _ _ _ _ rfl (by k_asm) (by k_asm) (by k_asm) (by first | exact fun _ h => h | assumption | (intro p9 hp9; (rename (∀ p ∈ _, p ∈ _) => hs9x); exact hs9x p9 (by simp only [List.mem_cons, hp9, or_true]))) | exact hexcN _ _ _ _ _ _ rfl (by k_asm) (by k_asm) (by k_asm) (by first | exact fun _ h => h | assumption | (intro p9 hp9; (rename (∀ p ∈ _, p ∈ _) => hs9x); exact hs9x p9 (by simp only [List.mem_cons, hp9, or_true]))))))) only [↓boxed]
theorem ot_right_i (w : World) (t : Tok) (y : Int) (t0 : Tok) (r : List Value) (l k : Nat) (news : List (Addr × Obj)) (h1 : (l, listObj (.int y t0 :: r) k) ∈ news)  : Tel w 170 [.str "RIGHT$" t, .ref l] 40 400 news (fun _ _ => False) (fun k => k = "TM") := by
  refine Box.out ?_
  simp (disch :=
    k_dflt ((
    refine keepP ?_
    walk_at "my_go"
    intro lo mean mg mb dp un gd outer A₀ base h₀ L hp0 gn0 dr0 tk0 os0 Q E B F X N T hd0 hu0 hP hret hexcN hexc
    (try dsimp only at F)
    (repeat' (first | (k_unfold; (try dsimp only)) | (k_end; kc_close) | ((with_reducible show wpAny _ _ (subscriptTail _ _ _ _) _ _ _); first | with_reducible ((k_here; (with_reducible show wpAny _ _ (subscriptTail _ _ (Value.ref _) (Value.int _ _)) _ _ _); (with_unfolding_all refine' item_list (News.isList ?n ?m) ?h0 ?hf ?hx ?_ ?hs ?hg; (case n => k_asm); (case m => tm_at "mem"); (case h0 => omega); (case hf => omega); (case hx => first | ((simp only [List.getElem?_toArray, Int.toNat_natCast]); assumption) | exact get0 | exact get1 | exact get2 | exact get3); (case hs => with_unfolding_all rfl); (case hg => intro _; with_unfolding_all rfl); k_whole)))) | ((with_reducible show wpAny _ _ (call (Value.ref _) _) _ _ _); first | with_reducible ((first | (k_here; (with_reducible show wpAny _ _ (call (Value.ref 86) [Value.int _ _]) _ _ _); k_dflt (refine' Tel.useX (need_text_i _ _ _ _) ?k1 ?k2 ?k3 ?k4 ?k5 ?k6 ?k7 ?k8 ?kr; tm_at "u1"; skip); (intro e9 g9 n9 h9 tk9 F9 U9 R9 hs9)) | (k_here; (with_reducible show wpAny _ _ (call (Value.ref 86) [Value.int _ _]) _ _ _); k_dflt (ktr_call z9 (need_text_i _ _ _ _); skip); (((case kr => exact fun _ _ _ _ _ _ hv9 => (show False from hv9).elim); intro k9 e9 g9 n9 h9 tk9 hk9 F9 U9 R9 hs9; subst hk9; (try dsimp only); (try k_fold))))))) | walk1 | (dsimp only; walk1) | (leave1; (try dsimp only)) | fail "no step"))
    all_goals first | (first | exact hexc _ _ _ _ _ _ rfl (by k_asm) (by k_asm) (by k_asm) (by first | exact fun _ h => h | assumption | (intro p9 hp9; (rename (∀ p ∈ _, p ∈ _) => hs9x); exact hs9x p9 (by simp only [List.mem_cons, hp9, or_true]))) | exact hexcN _ _ _ _ _ _ rfl (by k_asm) (by k_asm) (by k_asm) (by first | exact fun _ h => h | assumption | (intro p9 hp9; (rename (∀ p ∈ _, p ∈ _) => hs9x); exact hs9x p9 (by simp only [List.mem_cons, hp9, or_true]))))))) only [↓boxed]
theorem ot_len (w : World) (t : Tok) (x : PySem.Str) (t0 : Tok) (hok : PyData.strOk x = true) (hx : x.length ≤ 100) (l k : Nat) (news : List (Addr × Obj)) (h1 : (l, listObj ([.str x t0]) k) ∈ news)  : Tel w 170 [.str "LEN" t, .ref l] 40 400 news (fun v n => IsI ((x.length : Int)) v ∧ n = news) (fun _ => False) := by
  refine Box.out ?_
  simp (disch :=
    k_dflt ((
    refine keepP ?_
    walk_at "my_go"
    intro lo mean mg mb dp un gd outer A₀ base h₀ L hp0 gn0 dr0 tk0 os0 Q E B F X N T hd0 hu0 hP hret hexcN hexc
    (try dsimp only at F)
    (repeat' (first | (k_unfold; (try dsimp only)) | (k_end; kc_close) | ((with_reducible show wpAny _ _ (subscriptTail _ _ _ _) _ _ _); first | with_reducible ((k_here; (with_reducible show wpAny _ _ (subscriptTail _ _ (Value.ref _) (Value.int _ _)) _ _ _); (with_unfolding_all refine' item_list (News.isList ?n ?m) ?h0 ?hf ?hx ?_ ?hs ?hg; (case n => k_asm); (case m => tm_at "mem"); (case h0 => omega); (case hf => omega); (case hx => first | ((simp only [List.getElem?_toArray, Int.toNat_natCast]); assumption) | exact get0 | exact get1 | exact get2 | exact get3); (case hs => with_unfolding_all rfl); (case hg => intro _; with_unfolding_all rfl); k_whole)))) | ((with_reducible show wpAny _ _ (call (Value.ref _) _) _ _ _); first | with_reducible ((first | (k_here; (with_reducible show wpAny _ _ (call (Value.ref 86) [Value.str _ _]) _ _ _); k_dflt (refine' Tel.useS (need_text_s _ _ _ _) ?k1 ?k2 ?k3 ?k4 ?k5 ?k6 ?k7 ?k8 ?kr; tm_at "u1"; skip); (intro h9 tk9 F9 N9)) | (k_here; (with_reducible show wpAny _ _ (call (Value.ref 86) [Value.str _ _]) _ _ _); k_dflt (ktr_call z9 (need_text_s _ _ _ _); skip); walk_at "my_ret")))) | walk1 | (dsimp only; walk1) | (leave1; (try dsimp only)) | fail "no step"))
    all_goals exact hret _ news _ _ (by k_asm) (by walk_at "my_drop") ⟨⟨_, rfl⟩, rfl⟩))) only [↓boxed]
theorem ot_asc (w : World) (t : Tok) (x : PySem.Str) (t0 : Tok) (hok : PyData.strOk x = true) (hx : x.length ≤ 100) (hne : x ≠ "") (hlen : 0 < x.length) (l k : Nat) (news : List (Addr × Obj)) (h1 : (l, listObj ([.str x t0]) k) ∈ news)  : Tel w 170 [.str "ASC" t, .ref l] 40 400 news (fun v n => IsI (Builtin.bitAnd (((Txt.item x 0).cps.getD 0 0 : Nat) : Int) 255) v ∧ n = news) (fun _ => False) := by
  refine Box.out ?_
  simp (disch :=
    k_dflt ((
    refine keepP ?_
    walk_at "my_go"
    intro lo mean mg mb dp un gd outer A₀ base h₀ L hp0 gn0 dr0 tk0 os0 Q E B F X N T hd0 hu0 hP hret hexcN hexc
    (try dsimp only at F)
    (repeat' (first | (k_unfold; (try dsimp only)) | (k_end; kc_close) | ((with_reducible show wpAny _ _ (subscriptTail _ _ _ _) _ _ _); first | with_reducible ((k_here; (with_reducible show wpAny _ _ (subscriptTail _ _ (Value.ref _) (Value.int _ _)) _ _ _); (with_unfolding_all refine' item_list (News.isList ?n ?m) ?h0 ?hf ?hx ?_ ?hs ?hg; (case n => k_asm); (case m => tm_at "mem"); (case h0 => omega); (case hf => omega); (case hx => first | ((simp only [List.getElem?_toArray, Int.toNat_natCast]); assumption) | exact get0 | exact get1 | exact get2 | exact get3); (case hs => with_unfolding_all rfl); (case hg => intro _; with_unfolding_all rfl); k_whole)))) | ((with_reducible show wpAny _ _ (call (Value.ref _) _) _ _ _); first | with_reducible ((first | (k_here; (with_reducible show wpAny _ _ (call (Value.ref 86) [Value.str _ _]) _ _ _); k_dflt (refine' Tel.useS (need_text_s _ _ _ _) ?k1 ?k2 ?k3 ?k4 ?k5 ?k6 ?k7 ?k8 ?kr; tm_at "u1"; skip); (intro h9 tk9 F9 N9)) | (k_here; (with_reducible show wpAny _ _ (call (Value.ref 86) [Value.str _ _]) _ _ _); k_dflt (ktr_call z9 (need_text_s _ _ _ _); skip); walk_at "my_ret")))) | ((with_reducible show wpAny _ _ (exec (Stmt.Raise _ _ _) _) _ _ _); first | with_reducible ((k_here; k_dflt (refine' raise_B ?k1 ?k2 ?k3 ?k4 ?k5 ?k6 ?_; (case k1 => k_asm); (case k2 => k_asm); (case k3 => k_asm); (case k4 => exact rfl); (case k5 => walk_at "my_room"); (case k6 => walk_at "my_units"); k_whole); intro h' e' tk' hm'))) | walk1 | (dsimp only; walk1) | (leave1; (try dsimp only)) | fail "no step"))
    all_goals first | exact hret _ news _ _ (by k_asm) (by walk_at "my_drop") ⟨⟨_, rfl⟩, rfl⟩ | exact absurd (beq_iff_eq.mp (by assumption)) hne))) only [↓boxed]
theorem ot_asc0 (w : World) (t : Tok) (t0 : Tok) (l k : Nat) (news : List (Addr × Obj)) (h1 : (l, listObj ([.str "" t0]) k) ∈ news)  : Tel w 170 [.str "ASC" t, .ref l] 40 400 news (fun _ _ => False) (fun k => k = "FC") := by
  refine Box.out ?_
  simp (disch :=
    k_dflt ((
    refine keepP ?_
    walk_at "my_go"
    intro lo mean mg mb dp un gd outer A₀ base h₀ L hp0 gn0 dr0 tk0 os0 Q E B F X N T hd0 hu0 hP hret hexcN hexc
    (try dsimp only at F)
    (repeat' (first | (k_unfold; (try dsimp only)) | (k_end; kc_close) | ((with_reducible show wpAny _ _ (subscriptTail _ _ _ _) _ _ _); first | with_reducible ((k_here; (with_reducible show wpAny _ _ (subscriptTail _ _ (Value.ref _) (Value.int _ _)) _ _ _); (with_unfolding_all refine' item_list (News.isList ?n ?m) ?h0 ?hf ?hx ?_ ?hs ?hg; (case n => k_asm); (case m => tm_at "mem"); (case h0 => omega); (case hf => omega); (case hx => first | ((simp only [List.getElem?_toArray, Int.toNat_natCast]); assumption) | exact get0 | exact get1 | exact get2 | exact get3); (case hs => with_unfolding_all rfl); (case hg => intro _; with_unfolding_all rfl); k_whole)))) | ((with_reducible show wpAny _ _ (call (Value.ref _) _) _ _ _); first | with_reducible ((first | (k_here; (with_reducible show wpAny _ _ (call (Value.ref 86) [Value.str _ _]) _ _ _); k_dflt (refine' Tel.useS (need_text_s _ _ _ _) ?k1 ?k2 ?k3 ?k4 ?k5 ?k6 ?k7 ?k8 ?kr; tm_at "u1"; skip); (intro h9 tk9 F9 N9)) | (k_here; (with_reducible show wpAny _ _ (call (Value.ref 86) [Value.str _ _]) _ _ _); k_dflt (ktr_call z9 (need_text_s _ _ _ _); skip); walk_at "my_ret")))) | ((with_reducible show wpAny _ _ (exec (Stmt.Raise _ _ _) _) _ _ _); first | with_reducible ((k_here; k_dflt (refine' raise_B ?k1 ?k2 ?k3 ?k4 ?k5 ?k6 ?_; (case k1 => k_asm); (case k2 => k_asm); (case k3 => k_asm); (case k4 => exact rfl); (case k5 => walk_at "my_room"); (case k6 => walk_at "my_units"); k_whole); intro h' e' tk' hm'))) | walk1 | (dsimp only; walk1) | (leave1; (try dsimp only)) | fail "no step"))
    all_goals first | (first | exact hexc _ _ _ _ _ _ rfl (by k_asm) (by k_asm) (by k_asm) (by first | exact fun _ h => h | assumption | (intro p9 hp9; (rename (∀ p ∈ _, p ∈ _) => hs9x); exact hs9x p9 (by simp only [List.mem_cons, hp9, or_true]))) | exact hexcN _ _ _ _ _ _ rfl (by k_asm) (by k_asm) (by k_asm) (by first | exact fun _ h => h | assumption | (intro p9 hp9; (rename (∀ p ∈ _, p ∈ _) => hs9x); exact hs9x p9 (by simp only [List.mem_cons, hp9, or_true]))))))) only [↓boxed]
theorem ot_left_s (w : World) (t : Tok) (x : PySem.Str) (t0 : Tok) (hok : PyData.strOk x = true) (hx : x.length ≤ 100) (x2 : PySem.Str) (t1 : Tok) (r : List Value) (l k : Nat) (news : List (Addr × Obj)) (h1 : (l, listObj (.str x t0 :: .str x2 t1 :: r) k) ∈ news)  : Tel w 170 [.str "LEFT$" t, .ref l] 40 400 news (fun _ _ => False) (fun k => k = "TM") := by
  refine Box.out ?_
  simp (disch :=
    k_dflt ((
    refine keepP ?_
    walk_at "my_go"
    intro lo mean mg mb dp un gd outer A₀ base h₀ L hp0 gn0 dr0 tk0 os0 Q E B F X N T hd0 hu0 hP hret hexcN hexc
    (try dsimp only at F)
    (repeat' (first | (k_unfold; (try dsimp only)) | (k_end; kc_close) | ((with_reducible show wpAny _ _ (subscriptTail _ _ _ _) _ _ _); first | with_reducible ((k_here; (with_reducible show wpAny _ _ (subscriptTail _ _ (Value.ref _) (Value.int _ _)) _ _ _); (with_unfolding_all refine' item_list (News.isList ?n ?m) ?h0 ?hf ?hx ?_ ?hs ?hg; (case n => k_asm); (case m => tm_at "mem"); (case h0 => omega); (case hf => omega); (case hx => first | ((simp only [List.getElem?_toArray, Int.toNat_natCast]); assumption) | exact get0 | exact get1 | exact get2 | exact get3); (case hs => with_unfolding_all rfl); (case hg => intro _; with_unfolding_all rfl); k_whole)))) | ((with_reducible show wpAny _ _ (call (Value.ref _) _) _ _ _); first | with_reducible ((first | (k_here; (with_reducible show wpAny _ _ (call (Value.ref 93) [Value.str _ _, Value.int _ _]) _ _ _); k_dflt (refine' Tel.useX (need_count_s _ _ _ _ _ _) ?k1 ?k2 ?k3 ?k4 ?k5 ?k6 ?k7 ?k8 ?kr; tm_at "u1"; skip); (intro e9 g9 n9 h9 tk9 F9 U9 R9 hs9)) | (k_here; (with_reducible show wpAny _ _ (call (Value.ref 93) [Value.str _ _, Value.int _ _]) _ _ _); k_dflt (ktr_call z9 (need_count_s _ _ _ _ _ _); skip); (((case kr => exact fun _ _ _ _ _ _ hv9 => (show False from hv9).elim); intro k9 e9 g9 n9 h9 tk9 hk9 F9 U9 R9 hs9; subst hk9; (try dsimp only); (try k_fold)))))) | with_reducible ((first | (k_here; (with_reducible show wpAny _ _ (call (Value.ref 86) [Value.str _ _]) _ _ _); k_dflt (refine' Tel.useS (need_text_s _ _ _ _) ?k1 ?k2 ?k3 ?k4 ?k5 ?k6 ?k7 ?k8 ?kr; tm_at "u1"; skip); (intro h9 tk9 F9 N9)) | (k_here; (with_reducible show wpAny _ _ (call (Value.ref 86) [Value.str _ _]) _ _ _); k_dflt (ktr_call z9 (need_text_s _ _ _ _); skip); walk_at "my_ret")))) | walk1 | (dsimp only; walk1) | (leave1; (try dsimp only)) | fail "no step"))
    all_goals first | (first | exact hexc _ _ _ _ _ _ rfl (by k_asm) (by k_asm) (by k_asm) (by first | exact fun _ h => h | assumption | (intro p9 hp9; (rename (∀ p ∈ _, p ∈ _) => hs9x); exact hs9x p9 (by simp only [List.mem_cons, hp9, or_true]))) | exact hexcN _ _ _ _ _ _ rfl (by k_asm) (by k_asm) (by k_asm) (by first | exact fun _ h => h | assumption | (intro p9 hp9; (rename (∀ p ∈ _, p ∈ _) => hs9x); exact hs9x p9 (by simp only [List.mem_cons, hp9, or_true]))))))) only [↓boxed]
theorem ot_left_b (w : World) (t : Tok) (x : PySem.Str) (t0 : Tok) (hok : PyData.strOk x = true) (hx : x.length ≤ 100) (y : Int) (t1 : Tok) (hy : y < 0 ∨ 255 < y) (r : List Value) (l k : Nat) (news : List (Addr × Obj)) (h1 : (l, listObj (.str x t0 :: .int y t1 :: r) k) ∈ news)  : Tel w 170 [.str "LEFT$" t, .ref l] 40 400 news (fun _ _ => False) (fun k => k = "FC") := by
  refine Box.out ?_
  simp (disch :=
    k_dflt ((
    refine keepP ?_
    walk_at "my_go"
    intro lo mean mg mb dp un gd outer A₀ base h₀ L hp0 gn0 dr0 tk0 os0 Q E B F X N T hd0 hu0 hP hret hexcN hexc
    (try dsimp only at F)
    (repeat' (first | (k_unfold; (try dsimp only)) | (k_end; kc_close) | ((with_reducible show wpAny _ _ (subscriptTail _ _ _ _) _ _ _); first | with_reducible ((k_here; (with_reducible show wpAny _ _ (subscriptTail _ _ (Value.ref _) (Value.int _ _)) _ _ _); (with_unfolding_all refine' item_list (News.isList ?n ?m) ?h0 ?hf ?hx ?_ ?hs ?hg; (case n => k_asm); (case m => tm_at "mem"); (case h0 => omega); (case hf => omega); (case hx => first | ((simp only [List.getElem?_toArray, Int.toNat_natCast]); assumption) | exact get0 | exact get1 | exact get2 | exact get3); (case hs => with_unfolding_all rfl); (case hg => intro _; with_unfolding_all rfl); k_whole)))) | ((with_reducible show wpAny _ _ (call (Value.ref _) _) _ _ _); first | with_reducible ((first | (k_here; (with_reducible show wpAny _ _ (call (Value.ref 93) [Value.int _ _, Value.int _ _]) _ _ _); k_dflt (refine' Tel.useX (need_count_bad _ _ _ _ _ _ ?p1) ?k1 ?k2 ?k3 ?k4 ?k5 ?k6 ?k7 ?k8 ?kr; tm_at "u1"; (case p1 => omega); skip); (intro e9 g9 n9 h9 tk9 F9 U9 R9 hs9)) | (k_here; (with_reducible show wpAny _ _ (call (Value.ref 93) [Value.int _ _, Value.int _ _]) _ _ _); k_dflt (ktr_call z9 (need_count_bad _ _ _ _ _ _ ?p1); (case p1 => omega); skip); (((case kr => exact fun _ _ _ _ _ _ hv9 => (show False from hv9).elim); intro k9 e9 g9 n9 h9 tk9 hk9 F9 U9 R9 hs9; subst hk9; (try dsimp only); (try k_fold)))))) | with_reducible ((first | (k_here; (with_reducible show wpAny _ _ (call (Value.ref 86) [Value.str _ _]) _ _ _); k_dflt (refine' Tel.useS (need_text_s _ _ _ _) ?k1 ?k2 ?k3 ?k4 ?k5 ?k6 ?k7 ?k8 ?kr; tm_at "u1"; skip); (intro h9 tk9 F9 N9)) | (k_here; (with_reducible show wpAny _ _ (call (Value.ref 86) [Value.str _ _]) _ _ _); k_dflt (ktr_call z9 (need_text_s _ _ _ _); skip); walk_at "my_ret")))) | walk1 | (dsimp only; walk1) | (leave1; (try dsimp only)) | fail "no step"))
    all_goals first | (first | exact hexc _ _ _ _ _ _ rfl (by k_asm) (by k_asm) (by k_asm) (by first | exact fun _ h => h | assumption | (intro p9 hp9; (rename (∀ p ∈ _, p ∈ _) => hs9x); exact hs9x p9 (by simp only [List.mem_cons, hp9, or_true]))) | exact hexcN _ _ _ _ _ _ rfl (by k_asm) (by k_asm) (by k_asm) (by first | exact fun _ h => h | assumption | (intro p9 hp9; (rename (∀ p ∈ _, p ∈ _) => hs9x); exact hs9x p9 (by simp only [List.mem_cons, hp9, or_true]))))))) only [↓boxed]
theorem ot_left (w : World) (t : Tok) (x : PySem.Str) (t0 : Tok) (hok : PyData.strOk x = true) (hx : x.length ≤ 100) (y : Int) (t1 : Tok) (hy : 0 ≤ y) (hy2 : y ≤ 255) (r : List Value) (l k : Nat) (news : List (Addr × Obj)) (h1 : (l, listObj (.str x t0 :: .int y t1 :: r) k) ∈ news)  : Tel w 170 [.str "LEFT$" t, .ref l] 40 400 news (fun v n => IsS (Txt.slice x none (some y)) v ∧ n = news) (fun _ => False) := by
  refine Box.out ?_
  simp (disch :=
    k_dflt ((
    refine keepP ?_
    walk_at "my_go"
    intro lo mean mg mb dp un gd outer A₀ base h₀ L hp0 gn0 dr0 tk0 os0 Q E B F X N T hd0 hu0 hP hret hexcN hexc
    (try dsimp only at F)
    (repeat' (first | (k_unfold; (try dsimp only)) | (k_end; kc_close) | ((with_reducible show wpAny _ _ (isTrue _ _ _) _ _ _); with_reducible ((k_here; (first | with_reducible refine' isEqS (b := true) ?F ?e ?v ?b ?_ ?k ?x ?d | with_reducible refine' isNeS (b := true) ?F ?e ?v ?b ?_ ?k ?x ?d); k_dflt (tm_at "c1"; (case b => decide +kernel); tm_at "c2")))) | ((with_reducible show wpAny _ _ (subscriptTail _ _ _ _) _ _ _); first | with_reducible ((k_here; (with_reducible show wpAny _ _ (subscriptTail _ _ (Value.ref _) (Value.int _ _)) _ _ _); (with_unfolding_all refine' item_list (News.isList ?n ?m) ?h0 ?hf ?hx ?_ ?hs ?hg; (case n => k_asm); (case m => tm_at "mem"); (case h0 => omega); (case hf => omega); (case hx => first | ((simp only [List.getElem?_toArray, Int.toNat_natCast]); assumption) | exact get0 | exact get1 | exact get2 | exact get3); (case hs => with_unfolding_all rfl); (case hg => intro _; with_unfolding_all rfl); k_whole)))) | ((with_reducible show wpAny _ _ (call (Value.ref _) _) _ _ _); first | with_reducible ((first | (k_here; (with_reducible show wpAny _ _ (call (Value.ref 93) [Value.int _ _, Value.int _ _]) _ _ _); k_dflt (refine' Tel.useS (need_count_ok _ _ _ _ _ _ ?p1 ?p2) ?k1 ?k2 ?k3 ?k4 ?k5 ?k6 ?k7 ?k8 ?kr; tm_at "u1"; (case p1 => omega); (case p2 => omega); skip); (intro h9 tk9 F9 N9)) | (k_here; (with_reducible show wpAny _ _ (call (Value.ref 93) [Value.int _ _, Value.int _ _]) _ _ _); k_dflt (ktr_call z9 (need_count_ok _ _ _ _ _ _ ?p1 ?p2); (case p1 => omega); (case p2 => omega); skip); walk_at "my_ret"))) | with_reducible ((first | (k_here; (with_reducible show wpAny _ _ (call (Value.ref 86) [Value.str _ _]) _ _ _); k_dflt (refine' Tel.useS (need_text_s _ _ _ _) ?k1 ?k2 ?k3 ?k4 ?k5 ?k6 ?k7 ?k8 ?kr; tm_at "u1"; skip); (intro h9 tk9 F9 N9)) | (k_here; (with_reducible show wpAny _ _ (call (Value.ref 86) [Value.str _ _]) _ _ _); k_dflt (ktr_call z9 (need_text_s _ _ _ _); skip); walk_at "my_ret")))) | walk1 | (dsimp only; walk1) | (leave1; (try dsimp only)) | fail "no step"))
    all_goals exact hret _ news _ _ (by k_asm) (by walk_at "my_drop") ⟨⟨_, rfl⟩, rfl⟩))) only [↓boxed]
theorem ot_right_s (w : World) (t : Tok) (x : PySem.Str) (t0 : Tok) (hok : PyData.strOk x = true) (hx : x.length ≤ 100) (x2 : PySem.Str) (t1 : Tok) (r : List Value) (l k : Nat) (news : List (Addr × Obj)) (h1 : (l, listObj (.str x t0 :: .str x2 t1 :: r) k) ∈ news)  : Tel w 170 [.str "RIGHT$" t, .ref l] 40 400 news (fun _ _ => False) (fun k => k = "TM") := by
  refine Box.out ?_
  simp (disch :=
    k_dflt ((
    refine keepP ?_
    walk_at "my_go"
    intro lo mean mg mb dp un gd outer A₀ base h₀ L hp0 gn0 dr0 tk0 os0 Q E B F X N T hd0 hu0 hP hret hexcN hexc
    (try dsimp only at F)
    (repeat' (first | (k_unfold; (try dsimp only)) | (k_end; kc_close) | ((with_reducible show wpAny _ _ (subscriptTail _ _ _ _) _ _ _); first | with_reducible ((k_here; (with_reducible show wpAny _ _ (subscriptTail _ _ (Value.ref _) (Value.int _ _)) _ _ _); (with_unfolding_all refine' item_list (News.isList ?n ?m) ?h0 ?hf ?hx ?_ ?hs ?hg; (case n => k_asm); (case m => tm_at "mem"); (case h0 => omega); (case hf => omega); (case hx => first | ((simp only [List.getElem?_toArray, Int.toNat_natCast]); assumption) | exact get0 | exact get1 | exact get2 | exact get3); (case hs => with_unfolding_all rfl); (case hg => intro _; with_unfolding_all rfl); k_whole)))) | ((with_reducible show wpAny _ _ (call (Value.ref _) _) _ _ _); first | with_reducible ((first | (k_here; (with_reducible show wpAny _ _ (call (Value.ref 93) [Value.str _ _, Value.int _ _]) _ _ _); k_dflt (refine' Tel.useX (need_count_s _ _ _ _ _ _) ?k1 ?k2 ?k3 ?k4 ?k5 ?k6 ?k7 ?k8 ?kr; tm_at "u1"; skip); (intro e9 g9 n9 h9 tk9 F9 U9 R9 hs9)) | (k_here; (with_reducible show wpAny _ _ (call (Value.ref 93) [Value.str _ _, Value.int _ _]) _ _ _); k_dflt (ktr_call z9 (need_count_s _ _ _ _ _ _); skip); (((case kr => exact fun _ _ _ _ _ _ hv9 => (show False from hv9).elim); intro k9 e9 g9 n9 h9 tk9 hk9 F9 U9 R9 hs9; subst hk9; (try dsimp only); (try k_fold)))))) | with_reducible ((first | (k_here; (with_reducible show wpAny _ _ (call (Value.ref 86) [Value.str _ _]) _ _ _); k_dflt (refine' Tel.useS (need_text_s _ _ _ _) ?k1 ?k2 ?k3 ?k4 ?k5 ?k6 ?k7 ?k8 ?kr; tm_at "u1"; skip); (intro h9 tk9 F9 N9)) | (k_here; (with_reducible show wpAny _ _ (call (Value.ref 86) [Value.str _ _]) _ _ _); k_dflt (ktr_call z9 (need_text_s _ _ _ _); skip); walk_at "my_ret")))) | walk1 | (dsimp only; walk1) | (leave1; (try dsimp only)) | fail "no step"))
    all_goals first | (first | exact hexc _ _ _ _ _ _ rfl (by k_asm) (by k_asm) (by k_asm) (by first | exact fun _ h => h | assumption | (intro p9 hp9; (rename (∀ p ∈ _, p ∈ _) => hs9x); exact hs9x p9 (by simp only [List.mem_cons, hp9, or_true]))) | exact hexcN _ _ _ _ _ _ rfl (by k_asm) (by k_asm) (by k_asm) (by first | exact fun _ h => h | assumption | (intro p9 hp9; (rename (∀ p ∈ _, p ∈ _) => hs9x); exact hs9x p9 (by simp only [List.mem_cons, hp9, or_true]))))))) only [↓boxed]
theorem ot_right_b (w : World) (t : Tok) (x : PySem.Str) (t0 : Tok) (hok : PyData.strOk x = true) (hx : x.length ≤ 100) (y : Int) (t1 : Tok) (hy : y < 0 ∨ 255 < y) (r : List Value) (l k : Nat) (news : List (Addr × Obj)) (h1 : (l, listObj (.str x t0 :: .int y t1 :: r) k) ∈ news)  : Tel w 170 [.str "RIGHT$" t, .ref l] 40 400 news (fun _ _ => False) (fun k => k = "FC") := by
  refine Box.out ?_
  simp (disch :=
    k_dflt ((
    refine keepP ?_
    walk_at "my_go"
    intro lo mean mg mb dp un gd outer A₀ base h₀ L hp0 gn0 dr0 tk0 os0 Q E B F X N T hd0 hu0 hP hret hexcN hexc
    (try dsimp only at F)
    (repeat' (first | (k_unfold; (try dsimp only)) | (k_end; kc_close) | ((with_reducible show wpAny _ _ (subscriptTail _ _ _ _) _ _ _); first | with_reducible ((k_here; (with_reducible show wpAny _ _ (subscriptTail _ _ (Value.ref _) (Value.int _ _)) _ _ _); (with_unfolding_all refine' item_list (News.isList ?n ?m) ?h0 ?hf ?hx ?_ ?hs ?hg; (case n => k_asm); (case m => tm_at "mem"); (case h0 => omega); (case hf => omega); (case hx => first | ((simp only [List.getElem?_toArray, Int.toNat_natCast]); assumption) | exact get0 | exact get1 | exact get2 | exact get3); (case hs => with_unfolding_all rfl); (case hg => intro _; with_unfolding_all rfl); k_whole)))) | ((with_reducible show wpAny _ _ (call (Value.ref _) _) _ _ _); first | with_reducible ((first | (k_here; (with_reducible show wpAny _ _ (call (Value.ref 93) [Value.int _ _, Value.int _ _]) _ _ _); k_dflt (refine' Tel.useX (need_count_bad _ _ _ _ _ _ ?p1) ?k1 ?k2 ?k3 ?k4 ?k5 ?k6 ?k7 ?k8 ?kr; tm_at "u1"; (case p1 => omega); skip); (intro e9 g9 n9 h9 tk9 F9 U9 R9 hs9)) | (k_here; (with_reducible show wpAny _ _ (call (Value.ref 93) [Value.int _ _, Value.int _ _]) _ _ _); k_dflt (ktr_call z9 (need_count_bad _ _ _ _ _ _ ?p1); (case p1 => omega); skip); (((case kr => exact fun _ _ _ _ _ _ hv9 => (show False from hv9).elim); intro k9 e9 g9 n9 h9 tk9 hk9 F9 U9 R9 hs9; subst hk9; (try dsimp only); (try k_fold)))))) | with_reducible ((first | (k_here; (with_reducible show wpAny _ _ (call (Value.ref 86) [Value.str _ _]) _ _ _); k_dflt (refine' Tel.useS (need_text_s _ _ _ _) ?k1 ?k2 ?k3 ?k4 ?k5 ?k6 ?k7 ?k8 ?kr; tm_at "u1"; skip); (intro h9 tk9 F9 N9)) | (k_here; (with_reducible show wpAny _ _ (call (Value.ref 86) [Value.str _ _]) _ _ _); k_dflt (ktr_call z9 (need_text_s _ _ _ _); skip); walk_at "my_ret")))) | walk1 | (dsimp only; walk1) | (leave1; (try dsimp only)) | fail "no step"))
    all_goals first | (first | exact hexc _ _ _ _ _ _ rfl (by k_asm) (by k_asm) (by k_asm) (by first | exact fun _ h => h | assumption | (intro p9 hp9; (rename (∀ p ∈ _, p ∈ _) => hs9x); exact hs9x p9 (by simp only [List.mem_cons, hp9, or_true]))) | exact hexcN _ _ _ _ _ _ rfl (by k_asm) (by k_asm) (by k_asm) (by first | exact fun _ h => h | assumption | (intro p9 hp9; (rename (∀ p ∈ _, p ∈ _) => hs9x); exact hs9x p9 (by simp only [List.mem_cons, hp9, or_true]))))))) only [↓boxed]
theorem ot_right (w : World) (t : Tok) (x : PySem.Str) (t0 : Tok) (hok : PyData.strOk x = true) (hx : x.length ≤ 100) (y : Int) (t1 : Tok) (hy : 0 ≤ y) (hy2 : y ≤ 255) (r : List Value) (l k : Nat) (news : List (Addr × Obj)) (h1 : (l, listObj (.str x t0 :: .int y t1 :: r) k) ∈ news)  : Tel w 170 [.str "RIGHT$" t, .ref l] 40 400 news (fun v n => IsS (Txt.slice x (some (if (0 : Int) > (x.length : Int) - y then 0 else (x.length : Int) - y)) none) v ∧ n = news) (fun _ => False) := by
  refine Box.out ?_
  simp (disch :=
    k_dflt ((
    refine keepP ?_
    walk_at "my_go"
    intro lo mean mg mb dp un gd outer A₀ base h₀ L hp0 gn0 dr0 tk0 os0 Q E B F X N T hd0 hu0 hP hret hexcN hexc
    (try dsimp only at F)
    (repeat' (first | (k_unfold; (try dsimp only)) | (k_end; kc_close) | ((with_reducible show wpAny _ _ (isTrue _ _ _) _ _ _); with_reducible ((k_here; (first | with_reducible refine' isEqS (b := false) ?F ?e ?v ?b ?_ ?k ?x ?d | with_reducible refine' isNeS (b := false) ?F ?e ?v ?b ?_ ?k ?x ?d); k_dflt (tm_at "c1"; (case b => decide +kernel); tm_at "c2")))) | ((with_reducible show wpAny _ _ (subscriptTail _ _ _ _) _ _ _); first | with_reducible ((k_here; (with_reducible show wpAny _ _ (subscriptTail _ _ (Value.ref _) (Value.int _ _)) _ _ _); (with_unfolding_all refine' item_list (News.isList ?n ?m) ?h0 ?hf ?hx ?_ ?hs ?hg; (case n => k_asm); (case m => tm_at "mem"); (case h0 => omega); (case hf => omega); (case hx => first | ((simp only [List.getElem?_toArray, Int.toNat_natCast]); assumption) | exact get0 | exact get1 | exact get2 | exact get3); (case hs => with_unfolding_all rfl); (case hg => intro _; with_unfolding_all rfl); k_whole)))) | ((with_reducible show wpAny _ _ (call (Value.ref _) _) _ _ _); first | with_reducible ((first | (k_here; (with_reducible show wpAny _ _ (call (Value.ref 93) [Value.int _ _, Value.int _ _]) _ _ _); k_dflt (refine' Tel.useS (need_count_ok _ _ _ _ _ _ ?p1 ?p2) ?k1 ?k2 ?k3 ?k4 ?k5 ?k6 ?k7 ?k8 ?kr; tm_at "u1"; (case p1 => omega); (case p2 => omega); skip); (intro h9 tk9 F9 N9)) | (k_here; (with_reducible show wpAny _ _ (call (Value.ref 93) [Value.int _ _, Value.int _ _]) _ _ _); k_dflt (ktr_call z9 (need_count_ok _ _ _ _ _ _ ?p1 ?p2); (case p1 => omega); (case p2 => omega); skip); walk_at "my_ret"))) | with_reducible ((first | (k_here; (with_reducible show wpAny _ _ (call (Value.ref 86) [Value.str _ _]) _ _ _); k_dflt (refine' Tel.useS (need_text_s _ _ _ _) ?k1 ?k2 ?k3 ?k4 ?k5 ?k6 ?k7 ?k8 ?kr; tm_at "u1"; skip); (intro h9 tk9 F9 N9)) | (k_here; (with_reducible show wpAny _ _ (call (Value.ref 86) [Value.str _ _]) _ _ _); k_dflt (ktr_call z9 (need_text_s _ _ _ _); skip); walk_at "my_ret")))) | walk1 | (dsimp only; walk1) | (leave1; (try dsimp only)) | fail "no step"))
    all_goals exact hret _ news _ _ (by k_asm) (by walk_at "my_drop") ⟨⟨_, rfl⟩, rfl⟩))) only [↓boxed]
theorem ot_mid (w : World) (t : Tok) (l : Nat) (news : List (Addr × Obj)) (Ret : Value → List (Addr × Obj) → Prop) (Exc : PySem.Str → Prop) (hP : Tel w 156 [.ref l] 20 200 news Ret Exc) : Tel w 170 [.str "MID$" t, .ref l] 40 400 news Ret Exc := by
  refine Box.out ?_
  simp (disch :=
    k_dflt ((
    refine keepP ?_
    walk_at "my_go"
    intro lo mean mg mb dp un gd outer A₀ base h₀ L hp0 gn0 dr0 tk0 os0 Q E B F X N T hd0 hu0 hP hret hexcN hexc
    (try dsimp only at F)
    (repeat' (first | (k_unfold; (try dsimp only)) | (k_end; kc_close) | ((with_reducible show wpAny _ _ (call (Value.ref _) _) _ _ _); first | with_reducible ((k_here; (with_reducible show wpAny _ _ (call (Value.ref 156) [Value.ref _]) _ _ _); k_dflt (ktr_call z9 (show Tel _ 156 _ _ _ _ _ _ from by assumption)); (((case' kr => intro v9 n9 h9 tk9 F9 N9 hv9; (try dsimp only); (try k_fold)); (case' ke => intro k9 e9 g9 n9 h9 tk9 hk9 F9 U9 R9 hs9; (try dsimp only); (try k_fold))))))) | walk1 | (dsimp only; walk1) | (leave1; (try dsimp only)) | fail "no step"))
    all_goals first | exact hret _ _ _ _ (by k_asm) (by k_asm) (by assumption) | (first | exact hexc _ _ _ _ _ _ (by assumption) (by k_asm) (by k_asm) (by k_asm) (by first | exact fun _ h => h | assumption) | exact hexcN _ _ _ _ _ _ (by assumption) (by k_asm) (by k_asm) (by k_asm) (by first | exact fun _ h => h | assumption))))) only [↓boxed]
theorem ot_instr (w : World) (t : Tok) (l : Nat) (news : List (Addr × Obj)) (Ret : Value → List (Addr × Obj) → Prop) (Exc : PySem.Str → Prop) (hP : Tel w 163 [.ref l] 20 200 news Ret Exc) : Tel w 170 [.str "INSTR" t, .ref l] 40 400 news Ret Exc := by
  refine Box.out ?_
  simp (disch :=
    k_dflt ((
    refine keepP ?_
    walk_at "my_go"
    intro lo mean mg mb dp un gd outer A₀ base h₀ L hp0 gn0 dr0 tk0 os0 Q E B F X N T hd0 hu0 hP hret hexcN hexc
    (try dsimp only at F)
    (repeat' (first | (k_unfold; (try dsimp only)) | (k_end; kc_close) | ((with_reducible show wpAny _ _ (call (Value.ref _) _) _ _ _); first | with_reducible ((k_here; (with_reducible show wpAny _ _ (call (Value.ref 163) [Value.ref _]) _ _ _); k_dflt (ktr_call z9 (show Tel _ 163 _ _ _ _ _ _ from by assumption)); (((case' kr => intro v9 n9 h9 tk9 F9 N9 hv9; (try dsimp only); (try k_fold)); (case' ke => intro k9 e9 g9 n9 h9 tk9 hk9 F9 U9 R9 hs9; (try dsimp only); (try k_fold))))))) | walk1 | (dsimp only; walk1) | (leave1; (try dsimp only)) | fail "no step"))
    all_goals first | exact hret _ _ _ _ (by k_asm) (by k_asm) (by assumption) | (first | exact hexc _ _ _ _ _ _ (by assumption) (by k_asm) (by k_asm) (by k_asm) (by first | exact fun _ h => h | assumption) | exact hexcN _ _ _ _ _ _ (by assumption) (by k_asm) (by k_asm) (by k_asm) (by first | exact fun _ h => h | assumption))))) only [↓boxed]
theorem ot_val (w : World) (t : Tok) (x : PySem.Str) (t0 : Tok) (hok : PyData.strOk x = true) (hx : x.length ≤ 100) (l k : Nat) (news : List (Addr × Obj)) (Ret : Value → List (Addr × Obj) → Prop) (Exc : PySem.Str → Prop) (hP : Tel w 149 [.str x t0] 20 200 news Ret Exc) (h1 : (l, listObj ([.str x t0]) k) ∈ news)  : Tel w 170 [.str "VAL" t, .ref l] 40 400 news Ret Exc := by
  refine Box.out ?_
  simp (disch :=
    k_dflt ((
    refine keepP ?_
    walk_at "my_go"
    intro lo mean mg mb dp un gd outer A₀ base h₀ L hp0 gn0 dr0 tk0 os0 Q E B F X N T hd0 hu0 hP hret hexcN hexc
    (try dsimp only at F)
    (repeat' (first | (k_unfold; (try dsimp only)) | (k_end; kc_close) | ((with_reducible show wpAny _ _ (call (Value.ref _) _) _ _ _); first | with_reducible ((k_here; (with_reducible show wpAny _ _ (call (Value.ref 149) [Value.str _ _]) _ _ _); k_dflt (ktr_call z9 (show Tel _ 149 _ _ _ _ _ _ from by assumption)); (((case' kr => intro v9 n9 h9 tk9 F9 N9 hv9; (try dsimp only); (try k_fold)); (case' ke => intro k9 e9 g9 n9 h9 tk9 hk9 F9 U9 R9 hs9; (try dsimp only); (try k_fold)))))) | with_reducible ((first | (k_here; (with_reducible show wpAny _ _ (call (Value.ref 86) [Value.str _ _]) _ _ _); k_dflt (refine' Tel.useS (need_text_s _ _ _ _) ?k1 ?k2 ?k3 ?k4 ?k5 ?k6 ?k7 ?k8 ?kr; tm_at "u1"; skip); (intro h9 tk9 F9 N9)) | (k_here; (with_reducible show wpAny _ _ (call (Value.ref 86) [Value.str _ _]) _ _ _); k_dflt (ktr_call z9 (need_text_s _ _ _ _); skip); walk_at "my_ret")))) | ((with_reducible show wpAny _ _ (subscriptTail _ _ _ _) _ _ _); first | with_reducible ((k_here; (with_reducible show wpAny _ _ (subscriptTail _ _ (Value.ref _) (Value.int _ _)) _ _ _); (with_unfolding_all refine' item_list (News.isList ?n ?m) ?h0 ?hf ?hx ?_ ?hs ?hg; (case n => k_asm); (case m => tm_at "mem"); (case h0 => omega); (case hf => omega); (case hx => first | ((simp only [List.getElem?_toArray, Int.toNat_natCast]); assumption) | exact get0 | exact get1 | exact get2 | exact get3); (case hs => with_unfolding_all rfl); (case hg => intro _; with_unfolding_all rfl); k_whole)))) | walk1 | (dsimp only; walk1) | (leave1; (try dsimp only)) | fail "no step"))
    all_goals first | exact hret _ _ _ _ (by k_asm) (by k_asm) (by assumption) | (first | exact hexc _ _ _ _ _ _ (by assumption) (by k_asm) (by k_asm) (by k_asm) (by first | exact fun _ h => h | assumption) | exact hexcN _ _ _ _ _ _ (by assumption) (by k_asm) (by k_asm) (by k_asm) (by first | exact fun _ h => h | assumption))))) only [↓boxed]
end
section
set_option maxHeartbeats 16000000
section
theorem Tel.weaken {w : World} {f : Addr} {vs : List Value} {d u : Nat} {news : List (Addr × Obj)} {Ret Ret' : Value → List (Addr × Obj) → Prop} {Exc Exc' : PySem.Str → Prop} (C : Tel w f vs d u news Ret Exc) (hr : ∀ v n, Ret v n → Ret' v n) (he : ∀ k, Exc k → Exc' k) : Tel w f vs d u news Ret' Exc' := by
  intro lo mean mg mb dp un gd cn cs a0 ccd cl outer A₀ base h₀ L m s Q E B F X N T hk hd0 hu0 hret hexc
  exact C.use B F X N T hk hd0 hu0 (fun v n h' tk' a b c => hret v n h' tk' a b (hr v n c)) fun k e g n h' tk' a b c d e' => hexc k e g n h' tk' (he k a) b c d e'
noncomputable def tstAt (l : List Stmt) (n : Nat) : Expr := match l.drop n with
  | .While t _ _ _ :: _ => t
  | _ => .Constant .none 0 default
noncomputable def bdyAt (l : List Stmt) (n : Nat) : List Stmt := match l.drop n with
  | .While _ b _ _ :: _ => b
  | _ => []
abbrev DT (c : PySem.Str) : Bool := (Builtin.Str.occurrences (Str.ofString "0123456789") c 0 (Str.ofString "0123456789").length 1).isEmpty
noncomputable def dg (x : PySem.Str) (i : Int) : Int := (PySem.intText? (Txt.item x i)).getD 0
noncomputable def digV (x : PySem.Str) : Nat → Int → Int → Option Int
  | 0, _, n => some n
  | j + 1, i, n => if DT (Txt.item x i) = false then (if 32767 + 1 < n * 10 + dg x i then none else digV x j (i + 1) (n * 10 + dg x i)) else some n
theorem dv_stop {x : PySem.Str} {j : Nat} {i n : Int} (h : DT (Txt.item x i) = true) : digV x (j + 1) i n = some n := if_neg (by rw [h]; decide)
theorem dv_bad {x : PySem.Str} {j : Nat} {i n : Int} (h : DT (Txt.item x i) = false) (h2 : 32767 + 1 < n * 10 + dg x i) : digV x (j + 1) i n = none := (if_pos h).trans (if_pos h2)
theorem dv_go {x : PySem.Str} {j : Nat} {i n : Int} (h : DT (Txt.item x i) = false) (h2 : ¬ 32767 + 1 < n * 10 + dg x i) : digV x (j + 1) i n = digV x j (i + 1) (n * 10 + dg x i) := (if_pos h).trans (if_neg h2)
noncomputable def Held (p : Prop) : Prop := p
theorem held {p : Prop} (h : Held p) : p := h
theorem vdig {w : World} {sco : Scope} {test : Expr} {body : List Stmt} {lo : List PySem.Str} {mean : ExcName → Option Value} {mg mb : PySem.Str → Option Value} {dp un : Nat} {gd : Option (List Code)} {outer : List Env} {A₀ : Around} {base h₀ : Heap} {L : Addr} {ccd : Value} {Q : Flow → Shared → Prop} {E : Value → Shared → Prop} {x : PySem.Str} {t : Tok} {vb : Value} {news : List (Addr × Obj)}
   (hsco : sco = scopeAt w.params 149) (ht : test = tstAt (bodyAt w.params 149) 5) (hb : body = bdyAt (bodyAt w.params 149) 5)
   (B : Below A₀ base outer h₀) (X : (hd.heap_1 w.params).In h₀) (T : Top viewQ lo mean mg mb h₀) (hd0 : dp + 5 < 451) (hu0 : un + 20 < 903)
   (hP : PassesOwn (model PySem.Challenge.rw_pq1455_02.row.prog w) (ktrTop dp un gd (Str.ofString "value_in") sco L 149 ccd [] outer) (envOf (Str.ofString "value_in") sco L 149 ccd) E) (hlx : x.length ≤ 100)
   (hdg : ∀ i : Int, 0 ≤ i → i < x.length → DT (Txt.item x i) = false → PySem.intText? (Txt.item x i) = some (dg x i)) :
   ∀ (j : Nat) (i n : Int) (ti tn : Tok) (hp0 : Heap) (gn0 : Array GenState) (dr0 : Drawn) (tk0 : Nat) (os0 : OsState) (m : PySem.Str → Option Value), 0 ≤ i → i + j = x.length → Fr h₀ L hp0 m → News h₀ L hp0 news → m (Str.ofString "text") = some (.str x t) → m (Str.ofString "at") = some (.int i ti) → m (Str.ofString "found") = some (.int n tn) → m (Str.ofString "is_below") = some vb →
    (∀ n' tn' h' tk' {m' : PySem.Str → Option Value}, digV x j i n = some n' → Fr h₀ L h' m' → News h₀ L h' news → m' (Str.ofString "is_below") = some vb → m' (Str.ofString "found") = some (.int n' tn') → Q .next ⟨h', gn0, dr0, tk', os0⟩) →
    (∀ e h h' tk' {m' : PySem.Str → Option Value}, digV x j i n = none → Fr h₀ L h m' → News h₀ L h news → MadeB h h' e "OV" → E (.ref e) ⟨h', gn0, dr0, tk', os0⟩) →
    WhlRest PySem.Challenge.rw_pq1455_02.row.prog w (ktrTop dp un gd (Str.ofString "value_in") sco L 149 ccd [] outer) E (envOf (Str.ofString "value_in") sco L 149 ccd) test body [] Q 0 ⟨hp0, gn0, dr0, tk0, os0⟩ := by
  refine Box.out ?_
  simp (disch :=
    k_dflt ((
    refine keepP ?_
    subst hsco ht hb
    (rename Frag.In _ _ => X9; revert X9; k_fill; intro X9)
    conv in (occs := *) tstAt _ _ => all_goals whnf
    conv in (occs := *) bdyAt _ _ => all_goals whnf
    conv in (occs := *) scopeAt _ _ => all_goals whnf
    intro j
    induction j with
    | zero =>
      intro i n ti tn hp0 gn0 dr0 tk0 os0 m hi hij F N htx hat hfo hib hQ hE
      show WhlRest _ _ _ _ _ _ _ _ _ 1 _
      (repeat' (first | (k_unfold; (try dsimp only)) | (k_end; kc_close) | ((with_reducible show WhlPost _ _ _ _ _ _ _ _ _ _ _ _); with_reducible (((dsimp only [WhlPost]); refine held ?_))) | ((with_reducible show wpAny _ _ (eval (Expr.Call _ _ _ _) _) _ _ _); with_reducible ((first | refine Call_ ?_ | with_reducible refine Call_ ?_ | k_dflt (refine Call_ ?_)))) | with_reducible ((k_here; with_reducible refine' loadL ?F ?e ?v ?_ ?k ?x; k_dflt (tm_at "c1"; (case k => exact rfl); (case x => kernel_rfl); k_whole))) | ((with_reducible show wpAny _ _ (call (Value.type _) _) _ _ _); first | with_reducible ((k_here; (with_reducible show wpAny _ _ (call (Value.type "int") [Value.str (Txt.item _ _) _]) _ _ _); (rename ∀ i : Int, 0 ≤ i → _ → _ → PySem.intText? _ = _ => hdg9); refine' KIN.call_text (hdg9 _ ?a ?b ?c) ?d ?_; (case a => omega); (case b => omega); (case c => assumption); (case d => exact Nat.le_trans (Nat.le_of_eq (len_item _ _)) (by decide))))) | ((with_reducible show wpAny _ _ (exec (Stmt.Raise _ _ _) _) _ _ _); first | with_reducible ((k_here; k_dflt (refine' raise_B ?k1 ?k2 ?k3 ?k4 ?k5 ?k6 ?_; (case k1 => k_asm); (case k2 => k_asm); (case k3 => k_asm); (case k4 => exact rfl); (case k5 => walk_at "my_room"); (case k6 => walk_at "my_units"); k_whole); intro h' e' tk' hm'))) | walk1 | (dsimp only; walk1) | (leave1; (try dsimp only)) | fail "no step"))
      all_goals exact hQ _ _ _ _ rfl (by k_asm) (by k_asm) hib hfo
    | succ j ih =>
      intro i n ti tn hp0 gn0 dr0 tk0 os0 m hi hij F N htx hat hfo hib hQ hE
      show WhlRest _ _ _ _ _ _ _ _ _ 1 _
      (repeat' (first | (k_unfold; (try dsimp only)) | (k_end; kc_close) | ((with_reducible show WhlPost _ _ _ _ _ _ _ _ _ _ _ _); with_reducible (((dsimp only [WhlPost]); refine held ?_))) | ((with_reducible show wpAny _ _ (eval (Expr.Call _ _ _ _) _) _ _ _); with_reducible ((first | refine Call_ ?_ | with_reducible refine Call_ ?_ | k_dflt (refine Call_ ?_)))) | with_reducible ((k_here; with_reducible refine' loadL ?F ?e ?v ?_ ?k ?x; k_dflt (tm_at "c1"; (case k => exact rfl); (case x => kernel_rfl); k_whole))) | ((with_reducible show wpAny _ _ (call (Value.type _) _) _ _ _); first | with_reducible ((k_here; (with_reducible show wpAny _ _ (call (Value.type "int") [Value.str (Txt.item _ _) _]) _ _ _); (rename ∀ i : Int, 0 ≤ i → _ → _ → PySem.intText? _ = _ => hdg9); refine' KIN.call_text (hdg9 _ ?a ?b ?c) ?d ?_; (case a => omega); (case b => omega); (case c => assumption); (case d => exact Nat.le_trans (Nat.le_of_eq (len_item _ _)) (by decide))))) | ((with_reducible show wpAny _ _ (exec (Stmt.Raise _ _ _) _) _ _ _); first | with_reducible ((k_here; k_dflt (refine' raise_B ?k1 ?k2 ?k3 ?k4 ?k5 ?k6 ?_; (case k1 => k_asm); (case k2 => k_asm); (case k3 => k_asm); (case k4 => exact rfl); (case k5 => walk_at "my_room"); (case k6 => walk_at "my_units"); k_whole); intro h' e' tk' hm'))) | walk1 | (dsimp only; walk1) | (leave1; (try dsimp only)) | fail "no step"))
      · exact hQ _ _ _ _ (dv_stop (by assumption)) (by k_asm) (by k_asm) hib hfo
      · exact hE _ _ _ _ (dv_bad (by assumption) (by assumption)) (by k_asm) (by k_asm) (by assumption)
      · unfold Held
        refine' ih _ _ _ _ _ _ _ _ _ _ ?h1 ?h2 ?h3 ?h4 ?h5 ?h6 ?h7 ?h8 (fun n' tn' h' tk' m' e F N a b => hQ n' tn' h' tk' ((dv_go (by assumption) (by assumption)).trans e) F N a b) (fun e h h' tk' m' a F N M => hE e h h' tk' ((dv_go (by assumption) (by assumption)).trans a) F N M)
        case h3 => k_asm
        case h4 => k_asm
        case h5 => ((try dsimp only); tm_at "lk")
        case h6 => ((try dsimp only); tm_at "lk")
        case h7 => ((try dsimp only); tm_at "lk")
        case h8 => ((try dsimp only); tm_at "lk")
        case h1 => omega
        case h2 => omega))) only [↓boxed]
end
noncomputable def TXS : List PySem.Str := ["", "abab", "b", "12x", " -7", "32768", "-32768", "99999", "ab"]
theorem tx_ok {x : PySem.Str} (h : x ∈ TXS) : ∀ i : Int, 0 ≤ i → i < x.length → DT (Txt.item x i) = false → PySem.intText? (Txt.item x i) = some (dg x i) := by
  have all : (TXS.all fun x => (List.range x.length).all fun k => DT (Txt.item x (k : Int)) || (PySem.intText? (Txt.item x (k : Int))).isSome) = true := by decide +kernel
  intro i h0 h1 hd
  obtain ⟨k, rfl⟩ := Int.eq_ofNat_of_zero_le h0
  have a := List.all_eq_true.mp (List.all_eq_true.mp all x h) k (List.mem_range.mpr (by omega))
  rw [show DT (Txt.item x (k : Int)) = false from hd, Bool.false_or] at a
  obtain ⟨v, hv⟩ := Option.isSome_iff_exists.mp a
  unfold dg
  rw [hv]
  rfl
theorem dnone {a : Int} {o : Option Int} (e : o = some a) (h : o = none) : False := by rw [h] at e; cases e
theorem dval {a b : Int} {o : Option Int} (e : o = some a) (h : o = some b) : a = b := Option.some.inj (e.symm.trans h)
theorem val0 (w : World) (t : Tok) (news : List (Addr × Obj)) : Tel w 149 [.str "" t] 20 200 news (fun v n => IsI (0) v ∧ n = news) (fun _ => False) := by
  refine Box.out ?_
  simp (disch :=
    k_dflt ((
    refine keepP ?_
    walk_at "my_go"
    intro lo mean mg mb dp un gd outer A₀ base h₀ L hp0 gn0 dr0 tk0 os0 Q E B F X N T hd0 hu0 hP hret hexcN hexc
    (try dsimp only at F)
    (repeat' (first | (k_unfold; (try dsimp only)) | (k_end; kc_close) | ((with_reducible show wpAny _ _ (exec (Stmt.While _ _ _ _) _) _ _ _); with_reducible ((k_here; (with_reducible show wpAny _ _ (exec (Stmt.While (Expr.BoolOp _ [_, Expr.Compare _ _ [Expr.Name (Str.ofString "DIGITS") _] _] _) _ _ _) _) _ _ _); refine held ?_))) | ((with_reducible show (if _ then _ else _)); with_reducible ((k_closed; first | refine ite_pos (by decide +kernel) ?_ | refine ite_neg (by decide +kernel) ?_))) | ((with_reducible show wpAny _ _ (eval (Expr.Call _ _ _ _) _) _ _ _); with_reducible ((first | refine Call_ ?_ | with_reducible refine Call_ ?_ | k_dflt (refine Call_ ?_)))) | ((with_reducible show wpAny _ _ (call (Value.ref _) _) _ _ _); first | with_reducible ((first | (k_here; (with_reducible show wpAny _ _ (call (Value.ref 65) [Value.int _ _]) _ _ _); k_dflt (refine' Tel.useS (fitted_ok _ _ _ _ ?p1 ?p2) ?k1 ?k2 ?k3 ?k4 ?k5 ?k6 ?k7 ?k8 ?kr; tm_at "u1"; (case p1 => first | omega | decide); (case p2 => first | omega | decide); skip); (intro h9 tk9 F9 N9)) | (k_here; (with_reducible show wpAny _ _ (call (Value.ref 65) [Value.int _ _]) _ _ _); k_dflt (ktr_call z9 (fitted_ok _ _ _ _ ?p1 ?p2); (case p1 => first | omega | decide); (case p2 => first | omega | decide); skip); walk_at "my_ret")))) | walk1 | (dsimp only; walk1) | (leave1; (try dsimp only)) | fail "no step"))
    unfold Held
    refine whl_start 0 ?_
    refine' vdig (x := "") (by kernel_rfl) (by kernel_rfl) (by kernel_rfl) B X T ?_ ?_ hP (by decide +kernel) (tx_ok (by decide +kernel)) 0 _ 0 _ _ _ _ _ _ _ _ ?h1 ?h2 ?h3 ?h4 ?h5 ?h6 ?h7 ?h8 ?hQ ?hE
    case h3 => k_asm
    case h4 => k_asm
    case h5 => ((try dsimp only); tm_at "lk")
    case h6 => ((try dsimp only); tm_at "lk")
    case h7 => ((try dsimp only); tm_at "lk")
    case h8 => ((try dsimp only); tm_at "lk")
    case h1 => decide +kernel
    case h2 => decide +kernel
    case hE => exact fun e h h' tk' m' a F N M => absurd a (by decide +kernel)
    case hQ =>
      intro n' tn' h' tk' m' e F N hb hf
      obtain rfl := dval (b := 0) e (by decide +kernel)
      (try dsimp only)
      (repeat' (first | (k_unfold; (try dsimp only)) | (k_end; kc_close) | ((with_reducible show wpAny _ _ (exec (Stmt.While _ _ _ _) _) _ _ _); with_reducible ((k_here; (with_reducible show wpAny _ _ (exec (Stmt.While (Expr.BoolOp _ [_, Expr.Compare _ _ [Expr.Name (Str.ofString "DIGITS") _] _] _) _ _ _) _) _ _ _); refine held ?_))) | ((with_reducible show (if _ then _ else _)); with_reducible ((k_closed; first | refine ite_pos (by decide +kernel) ?_ | refine ite_neg (by decide +kernel) ?_))) | ((with_reducible show wpAny _ _ (eval (Expr.Call _ _ _ _) _) _ _ _); with_reducible ((first | refine Call_ ?_ | with_reducible refine Call_ ?_ | k_dflt (refine Call_ ?_)))) | ((with_reducible show wpAny _ _ (call (Value.ref _) _) _ _ _); first | with_reducible ((first | (k_here; (with_reducible show wpAny _ _ (call (Value.ref 65) [Value.int _ _]) _ _ _); k_dflt (refine' Tel.useS (fitted_ok _ _ _ _ ?p1 ?p2) ?k1 ?k2 ?k3 ?k4 ?k5 ?k6 ?k7 ?k8 ?kr; tm_at "u1"; (case p1 => first | omega | decide); (case p2 => first | omega | decide); skip); (intro h9 tk9 F9 N9)) | (k_here; (with_reducible show wpAny _ _ (call (Value.ref 65) [Value.int _ _]) _ _ _); k_dflt (ktr_call z9 (fitted_ok _ _ _ _ ?p1 ?p2); (case p1 => first | omega | decide); (case p2 => first | omega | decide); skip); walk_at "my_ret")))) | walk1 | (dsimp only; walk1) | (leave1; (try dsimp only)) | fail "no step"))
      all_goals first | exact hret _ news _ _ (by k_asm) (by walk_at "my_drop") ⟨⟨_, rfl⟩, rfl⟩ | exact hret _ news _ _ (by k_asm) (by walk_at "my_drop") ⟨⟨_, congrArg (fun z => Value.int z _) (by decide)⟩, rfl⟩
    all_goals omega))) only [↓boxed]
theorem val1 (w : World) (t : Tok) (news : List (Addr × Obj)) : Tel w 149 [.str "abab" t] 20 200 news (fun v n => IsI (0) v ∧ n = news) (fun _ => False) := by
  refine Box.out ?_
  simp (disch :=
    k_dflt ((
    refine keepP ?_
    walk_at "my_go"
    intro lo mean mg mb dp un gd outer A₀ base h₀ L hp0 gn0 dr0 tk0 os0 Q E B F X N T hd0 hu0 hP hret hexcN hexc
    (try dsimp only at F)
    (repeat' (first | (k_unfold; (try dsimp only)) | (k_end; kc_close) | ((with_reducible show wpAny _ _ (exec (Stmt.While _ _ _ _) _) _ _ _); with_reducible ((k_here; (with_reducible show wpAny _ _ (exec (Stmt.While (Expr.BoolOp _ [_, Expr.Compare _ _ [Expr.Name (Str.ofString "DIGITS") _] _] _) _ _ _) _) _ _ _); refine held ?_))) | ((with_reducible show (if _ then _ else _)); with_reducible ((k_closed; first | refine ite_pos (by decide +kernel) ?_ | refine ite_neg (by decide +kernel) ?_))) | ((with_reducible show wpAny _ _ (subscriptTail _ _ _ _) _ _ _); with_reducible ((refine item_str (by decide) (by decide) (by decide) ?_; intro _; walk_say "CLOSED SIGN"))) | ((with_reducible show wpAny _ _ (eval (Expr.Call _ _ _ _) _) _ _ _); with_reducible ((first | refine Call_ ?_ | with_reducible refine Call_ ?_ | k_dflt (refine Call_ ?_)))) | ((with_reducible show wpAny _ _ (call (Value.ref _) _) _ _ _); first | with_reducible ((first | (k_here; (with_reducible show wpAny _ _ (call (Value.ref 65) [Value.int _ _]) _ _ _); k_dflt (refine' Tel.useS (fitted_ok _ _ _ _ ?p1 ?p2) ?k1 ?k2 ?k3 ?k4 ?k5 ?k6 ?k7 ?k8 ?kr; tm_at "u1"; (case p1 => first | omega | decide); (case p2 => first | omega | decide); skip); (intro h9 tk9 F9 N9)) | (k_here; (with_reducible show wpAny _ _ (call (Value.ref 65) [Value.int _ _]) _ _ _); k_dflt (ktr_call z9 (fitted_ok _ _ _ _ ?p1 ?p2); (case p1 => first | omega | decide); (case p2 => first | omega | decide); skip); walk_at "my_ret")))) | walk1 | (dsimp only; walk1) | (leave1; (try dsimp only)) | fail "no step"))
    unfold Held
    refine whl_start 0 ?_
    refine' vdig (x := "abab") (by kernel_rfl) (by kernel_rfl) (by kernel_rfl) B X T ?_ ?_ hP (by decide +kernel) (tx_ok (by decide +kernel)) 4 _ 0 _ _ _ _ _ _ _ _ ?h1 ?h2 ?h3 ?h4 ?h5 ?h6 ?h7 ?h8 ?hQ ?hE
    case h3 => k_asm
    case h4 => k_asm
    case h5 => ((try dsimp only); tm_at "lk")
    case h6 => ((try dsimp only); tm_at "lk")
    case h7 => ((try dsimp only); tm_at "lk")
    case h8 => ((try dsimp only); tm_at "lk")
    case h1 => decide +kernel
    case h2 => decide +kernel
    case hE => exact fun e h h' tk' m' a F N M => absurd a (by decide +kernel)
    case hQ =>
      intro n' tn' h' tk' m' e F N hb hf
      obtain rfl := dval (b := 0) e (by decide +kernel)
      (try dsimp only)
      (repeat' (first | (k_unfold; (try dsimp only)) | (k_end; kc_close) | ((with_reducible show wpAny _ _ (exec (Stmt.While _ _ _ _) _) _ _ _); with_reducible ((k_here; (with_reducible show wpAny _ _ (exec (Stmt.While (Expr.BoolOp _ [_, Expr.Compare _ _ [Expr.Name (Str.ofString "DIGITS") _] _] _) _ _ _) _) _ _ _); refine held ?_))) | ((with_reducible show (if _ then _ else _)); with_reducible ((k_closed; first | refine ite_pos (by decide +kernel) ?_ | refine ite_neg (by decide +kernel) ?_))) | ((with_reducible show wpAny _ _ (subscriptTail _ _ _ _) _ _ _); with_reducible ((refine item_str (by decide) (by decide) (by decide) ?_; intro _; walk_say "CLOSED SIGN"))) | ((with_reducible show wpAny _ _ (eval (Expr.Call _ _ _ _) _) _ _ _); with_reducible ((first | refine Call_ ?_ | with_reducible refine Call_ ?_ | k_dflt (refine Call_ ?_)))) | ((with_reducible show wpAny _ _ (call (Value.ref _) _) _ _ _); first | with_reducible ((first | (k_here; (with_reducible show wpAny _ _ (call (Value.ref 65) [Value.int _ _]) _ _ _); k_dflt (refine' Tel.useS (fitted_ok _ _ _ _ ?p1 ?p2) ?k1 ?k2 ?k3 ?k4 ?k5 ?k6 ?k7 ?k8 ?kr; tm_at "u1"; (case p1 => first | omega | decide); (case p2 => first | omega | decide); skip); (intro h9 tk9 F9 N9)) | (k_here; (with_reducible show wpAny _ _ (call (Value.ref 65) [Value.int _ _]) _ _ _); k_dflt (ktr_call z9 (fitted_ok _ _ _ _ ?p1 ?p2); (case p1 => first | omega | decide); (case p2 => first | omega | decide); skip); walk_at "my_ret")))) | walk1 | (dsimp only; walk1) | (leave1; (try dsimp only)) | fail "no step"))
      all_goals first | exact hret _ news _ _ (by k_asm) (by walk_at "my_drop") ⟨⟨_, rfl⟩, rfl⟩ | exact hret _ news _ _ (by k_asm) (by walk_at "my_drop") ⟨⟨_, congrArg (fun z => Value.int z _) (by decide)⟩, rfl⟩
    all_goals omega))) only [↓boxed]
theorem val2 (w : World) (t : Tok) (news : List (Addr × Obj)) : Tel w 149 [.str "b" t] 20 200 news (fun v n => IsI (0) v ∧ n = news) (fun _ => False) := by
  refine Box.out ?_
  simp (disch :=
    k_dflt ((
    refine keepP ?_
    walk_at "my_go"
    intro lo mean mg mb dp un gd outer A₀ base h₀ L hp0 gn0 dr0 tk0 os0 Q E B F X N T hd0 hu0 hP hret hexcN hexc
    (try dsimp only at F)
    (repeat' (first | (k_unfold; (try dsimp only)) | (k_end; kc_close) | ((with_reducible show wpAny _ _ (exec (Stmt.While _ _ _ _) _) _ _ _); with_reducible ((k_here; (with_reducible show wpAny _ _ (exec (Stmt.While (Expr.BoolOp _ [_, Expr.Compare _ _ [Expr.Name (Str.ofString "DIGITS") _] _] _) _ _ _) _) _ _ _); refine held ?_))) | ((with_reducible show (if _ then _ else _)); with_reducible ((k_closed; first | refine ite_pos (by decide +kernel) ?_ | refine ite_neg (by decide +kernel) ?_))) | ((with_reducible show wpAny _ _ (subscriptTail _ _ _ _) _ _ _); with_reducible ((refine item_str (by decide) (by decide) (by decide) ?_; intro _; walk_say "CLOSED SIGN"))) | ((with_reducible show wpAny _ _ (eval (Expr.Call _ _ _ _) _) _ _ _); with_reducible ((first | refine Call_ ?_ | with_reducible refine Call_ ?_ | k_dflt (refine Call_ ?_)))) | ((with_reducible show wpAny _ _ (call (Value.ref _) _) _ _ _); first | with_reducible ((first | (k_here; (with_reducible show wpAny _ _ (call (Value.ref 65) [Value.int _ _]) _ _ _); k_dflt (refine' Tel.useS (fitted_ok _ _ _ _ ?p1 ?p2) ?k1 ?k2 ?k3 ?k4 ?k5 ?k6 ?k7 ?k8 ?kr; tm_at "u1"; (case p1 => first | omega | decide); (case p2 => first | omega | decide); skip); (intro h9 tk9 F9 N9)) | (k_here; (with_reducible show wpAny _ _ (call (Value.ref 65) [Value.int _ _]) _ _ _); k_dflt (ktr_call z9 (fitted_ok _ _ _ _ ?p1 ?p2); (case p1 => first | omega | decide); (case p2 => first | omega | decide); skip); walk_at "my_ret")))) | walk1 | (dsimp only; walk1) | (leave1; (try dsimp only)) | fail "no step"))
    unfold Held
    refine whl_start 0 ?_
    refine' vdig (x := "b") (by kernel_rfl) (by kernel_rfl) (by kernel_rfl) B X T ?_ ?_ hP (by decide +kernel) (tx_ok (by decide +kernel)) 1 _ 0 _ _ _ _ _ _ _ _ ?h1 ?h2 ?h3 ?h4 ?h5 ?h6 ?h7 ?h8 ?hQ ?hE
    case h3 => k_asm
    case h4 => k_asm
    case h5 => ((try dsimp only); tm_at "lk")
    case h6 => ((try dsimp only); tm_at "lk")
    case h7 => ((try dsimp only); tm_at "lk")
    case h8 => ((try dsimp only); tm_at "lk")
    case h1 => decide +kernel
    case h2 => decide +kernel
    case hE => exact fun e h h' tk' m' a F N M => absurd a (by decide +kernel)
    case hQ =>
      intro n' tn' h' tk' m' e F N hb hf
      obtain rfl := dval (b := 0) e (by decide +kernel)
      (try dsimp only)
      (repeat' (first | (k_unfold; (try dsimp only)) | (k_end; kc_close) | ((with_reducible show wpAny _ _ (exec (Stmt.While _ _ _ _) _) _ _ _); with_reducible ((k_here; (with_reducible show wpAny _ _ (exec (Stmt.While (Expr.BoolOp _ [_, Expr.Compare _ _ [Expr.Name (Str.ofString "DIGITS") _] _] _) _ _ _) _) _ _ _); refine held ?_))) | ((with_reducible show (if _ then _ else _)); with_reducible ((k_closed; first | refine ite_pos (by decide +kernel) ?_ | refine ite_neg (by decide +kernel) ?_))) | ((with_reducible show wpAny _ _ (subscriptTail _ _ _ _) _ _ _); with_reducible ((refine item_str (by decide) (by decide) (by decide) ?_; intro _; walk_say "CLOSED SIGN"))) | ((with_reducible show wpAny _ _ (eval (Expr.Call _ _ _ _) _) _ _ _); with_reducible ((first | refine Call_ ?_ | with_reducible refine Call_ ?_ | k_dflt (refine Call_ ?_)))) | ((with_reducible show wpAny _ _ (call (Value.ref _) _) _ _ _); first | with_reducible ((first | (k_here; (with_reducible show wpAny _ _ (call (Value.ref 65) [Value.int _ _]) _ _ _); k_dflt (refine' Tel.useS (fitted_ok _ _ _ _ ?p1 ?p2) ?k1 ?k2 ?k3 ?k4 ?k5 ?k6 ?k7 ?k8 ?kr; tm_at "u1"; (case p1 => first | omega | decide); (case p2 => first | omega | decide); skip); (intro h9 tk9 F9 N9)) | (k_here; (with_reducible show wpAny _ _ (call (Value.ref 65) [Value.int _ _]) _ _ _); k_dflt (ktr_call z9 (fitted_ok _ _ _ _ ?p1 ?p2); (case p1 => first | omega | decide); (case p2 => first | omega | decide); skip); walk_at "my_ret")))) | walk1 | (dsimp only; walk1) | (leave1; (try dsimp only)) | fail "no step"))
      all_goals first | exact hret _ news _ _ (by k_asm) (by walk_at "my_drop") ⟨⟨_, rfl⟩, rfl⟩ | exact hret _ news _ _ (by k_asm) (by walk_at "my_drop") ⟨⟨_, congrArg (fun z => Value.int z _) (by decide)⟩, rfl⟩
    all_goals omega))) only [↓boxed]
theorem val3 (w : World) (t : Tok) (news : List (Addr × Obj)) : Tel w 149 [.str "12x" t] 20 200 news (fun v n => IsI (12) v ∧ n = news) (fun _ => False) := by
  refine Box.out ?_
  simp (disch :=
    k_dflt ((
    refine keepP ?_
    walk_at "my_go"
    intro lo mean mg mb dp un gd outer A₀ base h₀ L hp0 gn0 dr0 tk0 os0 Q E B F X N T hd0 hu0 hP hret hexcN hexc
    (try dsimp only at F)
    (repeat' (first | (k_unfold; (try dsimp only)) | (k_end; kc_close) | ((with_reducible show wpAny _ _ (exec (Stmt.While _ _ _ _) _) _ _ _); with_reducible ((k_here; (with_reducible show wpAny _ _ (exec (Stmt.While (Expr.BoolOp _ [_, Expr.Compare _ _ [Expr.Name (Str.ofString "DIGITS") _] _] _) _ _ _) _) _ _ _); refine held ?_))) | ((with_reducible show (if _ then _ else _)); with_reducible ((k_closed; first | refine ite_pos (by decide +kernel) ?_ | refine ite_neg (by decide +kernel) ?_))) | ((with_reducible show wpAny _ _ (subscriptTail _ _ _ _) _ _ _); with_reducible ((refine item_str (by decide) (by decide) (by decide) ?_; intro _; walk_say "CLOSED SIGN"))) | ((with_reducible show wpAny _ _ (eval (Expr.Call _ _ _ _) _) _ _ _); with_reducible ((first | refine Call_ ?_ | with_reducible refine Call_ ?_ | k_dflt (refine Call_ ?_)))) | ((with_reducible show wpAny _ _ (call (Value.ref _) _) _ _ _); first | with_reducible ((first | (k_here; (with_reducible show wpAny _ _ (call (Value.ref 65) [Value.int _ _]) _ _ _); k_dflt (refine' Tel.useS (fitted_ok _ _ _ _ ?p1 ?p2) ?k1 ?k2 ?k3 ?k4 ?k5 ?k6 ?k7 ?k8 ?kr; tm_at "u1"; (case p1 => first | omega | decide); (case p2 => first | omega | decide); skip); (intro h9 tk9 F9 N9)) | (k_here; (with_reducible show wpAny _ _ (call (Value.ref 65) [Value.int _ _]) _ _ _); k_dflt (ktr_call z9 (fitted_ok _ _ _ _ ?p1 ?p2); (case p1 => first | omega | decide); (case p2 => first | omega | decide); skip); walk_at "my_ret")))) | walk1 | (dsimp only; walk1) | (leave1; (try dsimp only)) | fail "no step"))
    unfold Held
    refine whl_start 0 ?_
    refine' vdig (x := "12x") (by kernel_rfl) (by kernel_rfl) (by kernel_rfl) B X T ?_ ?_ hP (by decide +kernel) (tx_ok (by decide +kernel)) 3 _ 0 _ _ _ _ _ _ _ _ ?h1 ?h2 ?h3 ?h4 ?h5 ?h6 ?h7 ?h8 ?hQ ?hE
    case h3 => k_asm
    case h4 => k_asm
    case h5 => ((try dsimp only); tm_at "lk")
    case h6 => ((try dsimp only); tm_at "lk")
    case h7 => ((try dsimp only); tm_at "lk")
    case h8 => ((try dsimp only); tm_at "lk")
    case h1 => decide +kernel
    case h2 => decide +kernel
    case hE => exact fun e h h' tk' m' a F N M => absurd a (by decide +kernel)
    case hQ =>
      intro n' tn' h' tk' m' e F N hb hf
      obtain rfl := dval (b := 12) e (by decide +kernel)
      (try dsimp only)
      (repeat' (first | (k_unfold; (try dsimp only)) | (k_end; kc_close) | ((with_reducible show wpAny _ _ (exec (Stmt.While _ _ _ _) _) _ _ _); with_reducible ((k_here; (with_reducible show wpAny _ _ (exec (Stmt.While (Expr.BoolOp _ [_, Expr.Compare _ _ [Expr.Name (Str.ofString "DIGITS") _] _] _) _ _ _) _) _ _ _); refine held ?_))) | ((with_reducible show (if _ then _ else _)); with_reducible ((k_closed; first | refine ite_pos (by decide +kernel) ?_ | refine ite_neg (by decide +kernel) ?_))) | ((with_reducible show wpAny _ _ (subscriptTail _ _ _ _) _ _ _); with_reducible ((refine item_str (by decide) (by decide) (by decide) ?_; intro _; walk_say "CLOSED SIGN"))) | ((with_reducible show wpAny _ _ (eval (Expr.Call _ _ _ _) _) _ _ _); with_reducible ((first | refine Call_ ?_ | with_reducible refine Call_ ?_ | k_dflt (refine Call_ ?_)))) | ((with_reducible show wpAny _ _ (call (Value.ref _) _) _ _ _); first | with_reducible ((first | (k_here; (with_reducible show wpAny _ _ (call (Value.ref 65) [Value.int _ _]) _ _ _); k_dflt (refine' Tel.useS (fitted_ok _ _ _ _ ?p1 ?p2) ?k1 ?k2 ?k3 ?k4 ?k5 ?k6 ?k7 ?k8 ?kr; tm_at "u1"; (case p1 => first | omega | decide); (case p2 => first | omega | decide); skip); (intro h9 tk9 F9 N9)) | (k_here; (with_reducible show wpAny _ _ (call (Value.ref 65) [Value.int _ _]) _ _ _); k_dflt (ktr_call z9 (fitted_ok _ _ _ _ ?p1 ?p2); (case p1 => first | omega | decide); (case p2 => first | omega | decide); skip); walk_at "my_ret")))) | walk1 | (dsimp only; walk1) | (leave1; (try dsimp only)) | fail "no step"))
      all_goals first | exact hret _ news _ _ (by k_asm) (by walk_at "my_drop") ⟨⟨_, rfl⟩, rfl⟩ | exact hret _ news _ _ (by k_asm) (by walk_at "my_drop") ⟨⟨_, congrArg (fun z => Value.int z _) (by decide)⟩, rfl⟩
    all_goals omega))) only [↓boxed]
theorem val4 (w : World) (t : Tok) (news : List (Addr × Obj)) : Tel w 149 [.str " -7" t] 20 200 news (fun v n => IsI (-7) v ∧ n = news) (fun _ => False) := by
  refine Box.out ?_
  simp (disch :=
    k_dflt ((
    refine keepP ?_
    walk_at "my_go"
    intro lo mean mg mb dp un gd outer A₀ base h₀ L hp0 gn0 dr0 tk0 os0 Q E B F X N T hd0 hu0 hP hret hexcN hexc
    (try dsimp only at F)
    (repeat' (first | (k_unfold; (try dsimp only)) | (k_end; kc_close) | ((with_reducible show wpAny _ _ (exec (Stmt.While _ _ _ _) _) _ _ _); with_reducible ((k_here; (with_reducible show wpAny _ _ (exec (Stmt.While (Expr.BoolOp _ [_, Expr.Compare _ _ [Expr.Name (Str.ofString "DIGITS") _] _] _) _ _ _) _) _ _ _); refine held ?_))) | ((with_reducible show (if _ then _ else _)); with_reducible ((k_closed; first | refine ite_pos (by decide +kernel) ?_ | refine ite_neg (by decide +kernel) ?_))) | ((with_reducible show wpAny _ _ (subscriptTail _ _ _ _) _ _ _); with_reducible ((refine item_str (by decide) (by decide) (by decide) ?_; intro _; walk_say "CLOSED SIGN"))) | ((with_reducible show wpAny _ _ (eval (Expr.Call _ _ _ _) _) _ _ _); with_reducible ((first | refine Call_ ?_ | with_reducible refine Call_ ?_ | k_dflt (refine Call_ ?_)))) | with_reducible ((k_here; with_reducible refine' loadL ?F ?e ?v ?_ ?k ?x; k_dflt (tm_at "c1"; (case k => exact rfl); (case x => kernel_rfl); k_whole))) | ((with_reducible show wpAny _ _ (call (Value.ref _) _) _ _ _); first | with_reducible ((first | (k_here; (with_reducible show wpAny _ _ (call (Value.ref 65) [Value.int _ _]) _ _ _); k_dflt (refine' Tel.useS (fitted_ok _ _ _ _ ?p1 ?p2) ?k1 ?k2 ?k3 ?k4 ?k5 ?k6 ?k7 ?k8 ?kr; tm_at "u1"; (case p1 => first | omega | decide); (case p2 => first | omega | decide); skip); (intro h9 tk9 F9 N9)) | (k_here; (with_reducible show wpAny _ _ (call (Value.ref 65) [Value.int _ _]) _ _ _); k_dflt (ktr_call z9 (fitted_ok _ _ _ _ ?p1 ?p2); (case p1 => first | omega | decide); (case p2 => first | omega | decide); skip); walk_at "my_ret")))) | walk1 | (dsimp only; walk1) | (leave1; (try dsimp only)) | fail "no step"))
    unfold Held
    refine whl_start 0 ?_
    refine' vdig (x := " -7") (by kernel_rfl) (by kernel_rfl) (by kernel_rfl) B X T ?_ ?_ hP (by decide +kernel) (tx_ok (by decide +kernel)) 1 _ 0 _ _ _ _ _ _ _ _ ?h1 ?h2 ?h3 ?h4 ?h5 ?h6 ?h7 ?h8 ?hQ ?hE
    case h3 => k_asm
    case h4 => k_asm
    case h5 => ((try dsimp only); tm_at "lk")
    case h6 => ((try dsimp only); tm_at "lk")
    case h7 => ((try dsimp only); tm_at "lk")
    case h8 => ((try dsimp only); tm_at "lk")
    case h1 => decide +kernel
    case h2 => decide +kernel
    case hE => exact fun e h h' tk' m' a F N M => absurd a (by decide +kernel)
    case hQ =>
      intro n' tn' h' tk' m' e F N hb hf
      obtain rfl := dval (b := 7) e (by decide +kernel)
      (try dsimp only)
      (repeat' (first | (k_unfold; (try dsimp only)) | (k_end; kc_close) | ((with_reducible show wpAny _ _ (exec (Stmt.While _ _ _ _) _) _ _ _); with_reducible ((k_here; (with_reducible show wpAny _ _ (exec (Stmt.While (Expr.BoolOp _ [_, Expr.Compare _ _ [Expr.Name (Str.ofString "DIGITS") _] _] _) _ _ _) _) _ _ _); refine held ?_))) | ((with_reducible show (if _ then _ else _)); with_reducible ((k_closed; first | refine ite_pos (by decide +kernel) ?_ | refine ite_neg (by decide +kernel) ?_))) | ((with_reducible show wpAny _ _ (subscriptTail _ _ _ _) _ _ _); with_reducible ((refine item_str (by decide) (by decide) (by decide) ?_; intro _; walk_say "CLOSED SIGN"))) | ((with_reducible show wpAny _ _ (eval (Expr.Call _ _ _ _) _) _ _ _); with_reducible ((first | refine Call_ ?_ | with_reducible refine Call_ ?_ | k_dflt (refine Call_ ?_)))) | with_reducible ((k_here; with_reducible refine' loadL ?F ?e ?v ?_ ?k ?x; k_dflt (tm_at "c1"; (case k => exact rfl); (case x => kernel_rfl); k_whole))) | ((with_reducible show wpAny _ _ (call (Value.ref _) _) _ _ _); first | with_reducible ((first | (k_here; (with_reducible show wpAny _ _ (call (Value.ref 65) [Value.int _ _]) _ _ _); k_dflt (refine' Tel.useS (fitted_ok _ _ _ _ ?p1 ?p2) ?k1 ?k2 ?k3 ?k4 ?k5 ?k6 ?k7 ?k8 ?kr; tm_at "u1"; (case p1 => first | omega | decide); (case p2 => first | omega | decide); skip); (intro h9 tk9 F9 N9)) | (k_here; (with_reducible show wpAny _ _ (call (Value.ref 65) [Value.int _ _]) _ _ _); k_dflt (ktr_call z9 (fitted_ok _ _ _ _ ?p1 ?p2); (case p1 => first | omega | decide); (case p2 => first | omega | decide); skip); walk_at "my_ret")))) | walk1 | (dsimp only; walk1) | (leave1; (try dsimp only)) | fail "no step"))
      all_goals first | exact hret _ news _ _ (by k_asm) (by walk_at "my_drop") ⟨⟨_, rfl⟩, rfl⟩ | exact hret _ news _ _ (by k_asm) (by walk_at "my_drop") ⟨⟨_, congrArg (fun z => Value.int z _) (by decide)⟩, rfl⟩
    all_goals omega))) only [↓boxed]
theorem val5 (w : World) (t : Tok) (news : List (Addr × Obj)) : Tel w 149 [.str "32768" t] 20 200 news (fun _ _ => False) (fun k => k = "OV") := by
  refine Box.out ?_
  simp (disch :=
    k_dflt ((
    refine keepP ?_
    walk_at "my_go"
    intro lo mean mg mb dp un gd outer A₀ base h₀ L hp0 gn0 dr0 tk0 os0 Q E B F X N T hd0 hu0 hP hret hexcN hexc
    (try dsimp only at F)
    (repeat' (first | (k_unfold; (try dsimp only)) | (k_end; kc_close) | ((with_reducible show wpAny _ _ (exec (Stmt.While _ _ _ _) _) _ _ _); with_reducible ((k_here; (with_reducible show wpAny _ _ (exec (Stmt.While (Expr.BoolOp _ [_, Expr.Compare _ _ [Expr.Name (Str.ofString "DIGITS") _] _] _) _ _ _) _) _ _ _); refine held ?_))) | ((with_reducible show (if _ then _ else _)); with_reducible ((k_closed; first | refine ite_pos (by decide +kernel) ?_ | refine ite_neg (by decide +kernel) ?_))) | ((with_reducible show wpAny _ _ (subscriptTail _ _ _ _) _ _ _); with_reducible ((refine item_str (by decide) (by decide) (by decide) ?_; intro _; walk_say "CLOSED SIGN"))) | ((with_reducible show wpAny _ _ (eval (Expr.Call _ _ _ _) _) _ _ _); with_reducible ((first | refine Call_ ?_ | with_reducible refine Call_ ?_ | k_dflt (refine Call_ ?_)))) | ((with_reducible show wpAny _ _ (call (Value.ref _) _) _ _ _); first | with_reducible ((first | (k_here; (with_reducible show wpAny _ _ (call (Value.ref 65) [Value.int _ _]) _ _ _); k_dflt (refine' Tel.useX (fitted_bad _ _ _ _ ?p1) ?k1 ?k2 ?k3 ?k4 ?k5 ?k6 ?k7 ?k8 ?kr; tm_at "u1"; (case p1 => first | omega | decide); skip); (intro e9 g9 n9 h9 tk9 F9 U9 R9 hs9)) | (k_here; (with_reducible show wpAny _ _ (call (Value.ref 65) [Value.int _ _]) _ _ _); k_dflt (ktr_call z9 (fitted_bad _ _ _ _ ?p1); (case p1 => first | omega | decide); skip); (((case kr => exact fun _ _ _ _ _ _ hv9 => (show False from hv9).elim); intro k9 e9 g9 n9 h9 tk9 hk9 F9 U9 R9 hs9; subst hk9; (try dsimp only); (try k_fold))))))) | walk1 | (dsimp only; walk1) | (leave1; (try dsimp only)) | fail "no step"))
    unfold Held
    refine whl_start 0 ?_
    refine' vdig (x := "32768") (by kernel_rfl) (by kernel_rfl) (by kernel_rfl) B X T ?_ ?_ hP (by decide +kernel) (tx_ok (by decide +kernel)) 5 _ 0 _ _ _ _ _ _ _ _ ?h1 ?h2 ?h3 ?h4 ?h5 ?h6 ?h7 ?h8 ?hQ ?hE
    case h3 => k_asm
    case h4 => k_asm
    case h5 => ((try dsimp only); tm_at "lk")
    case h6 => ((try dsimp only); tm_at "lk")
    case h7 => ((try dsimp only); tm_at "lk")
    case h8 => ((try dsimp only); tm_at "lk")
    case h1 => decide +kernel
    case h2 => decide +kernel
    case hE => exact fun e h h' tk' m' a F N M => absurd a (by decide +kernel)
    case hQ =>
      intro n' tn' h' tk' m' e F N hb hf
      obtain rfl := dval (b := 32768) e (by decide +kernel)
      (try dsimp only)
      (repeat' (first | (k_unfold; (try dsimp only)) | (k_end; kc_close) | ((with_reducible show wpAny _ _ (exec (Stmt.While _ _ _ _) _) _ _ _); with_reducible ((k_here; (with_reducible show wpAny _ _ (exec (Stmt.While (Expr.BoolOp _ [_, Expr.Compare _ _ [Expr.Name (Str.ofString "DIGITS") _] _] _) _ _ _) _) _ _ _); refine held ?_))) | ((with_reducible show (if _ then _ else _)); with_reducible ((k_closed; first | refine ite_pos (by decide +kernel) ?_ | refine ite_neg (by decide +kernel) ?_))) | ((with_reducible show wpAny _ _ (subscriptTail _ _ _ _) _ _ _); with_reducible ((refine item_str (by decide) (by decide) (by decide) ?_; intro _; walk_say "CLOSED SIGN"))) | ((with_reducible show wpAny _ _ (eval (Expr.Call _ _ _ _) _) _ _ _); with_reducible ((first | refine Call_ ?_ | with_reducible refine Call_ ?_ | k_dflt (refine Call_ ?_)))) | ((with_reducible show wpAny _ _ (call (Value.ref _) _) _ _ _); first | with_reducible ((first | (k_here; (with_reducible show wpAny _ _ (call (Value.ref 65) [Value.int _ _]) _ _ _); k_dflt (refine' Tel.useX (fitted_bad _ _ _ _ ?p1) ?k1 ?k2 ?k3 ?k4 ?k5 ?k6 ?k7 ?k8 ?kr; tm_at "u1"; (case p1 => first | omega | decide); skip); (intro e9 g9 n9 h9 tk9 F9 U9 R9 hs9)) | (k_here; (with_reducible show wpAny _ _ (call (Value.ref 65) [Value.int _ _]) _ _ _); k_dflt (ktr_call z9 (fitted_bad _ _ _ _ ?p1); (case p1 => first | omega | decide); skip); (((case kr => exact fun _ _ _ _ _ _ hv9 => (show False from hv9).elim); intro k9 e9 g9 n9 h9 tk9 hk9 F9 U9 R9 hs9; subst hk9; (try dsimp only); (try k_fold))))))) | walk1 | (dsimp only; walk1) | (leave1; (try dsimp only)) | fail "no step"))
      all_goals first | (first | exact hexc _ _ _ _ _ _ rfl (by k_asm) (by k_asm) (by k_asm) (by first | exact fun _ h => h | assumption | (intro p9 hp9; (rename (∀ p ∈ _, p ∈ _) => hs9x); exact hs9x p9 (by simp only [List.mem_cons, hp9, or_true]))) | exact hexcN _ _ _ _ _ _ rfl (by k_asm) (by k_asm) (by k_asm) (by first | exact fun _ h => h | assumption | (intro p9 hp9; (rename (∀ p ∈ _, p ∈ _) => hs9x); exact hs9x p9 (by simp only [List.mem_cons, hp9, or_true])))) | (first | exact hexc _ _ _ _ _ _ rfl (by k_asm) (by k_asm) (by k_asm) (by walk_at "my_subs") | exact hexcN _ _ _ _ _ _ rfl (by k_asm) (by k_asm) (by k_asm) (by walk_at "my_subs"))
    all_goals omega))) only [↓boxed]
theorem val6 (w : World) (t : Tok) (news : List (Addr × Obj)) : Tel w 149 [.str "-32768" t] 20 200 news (fun v n => IsI (-32768) v ∧ n = news) (fun _ => False) := by
  refine Box.out ?_
  simp (disch :=
    k_dflt ((
    refine keepP ?_
    walk_at "my_go"
    intro lo mean mg mb dp un gd outer A₀ base h₀ L hp0 gn0 dr0 tk0 os0 Q E B F X N T hd0 hu0 hP hret hexcN hexc
    (try dsimp only at F)
    (repeat' (first | (k_unfold; (try dsimp only)) | (k_end; kc_close) | ((with_reducible show wpAny _ _ (exec (Stmt.While _ _ _ _) _) _ _ _); with_reducible ((k_here; (with_reducible show wpAny _ _ (exec (Stmt.While (Expr.BoolOp _ [_, Expr.Compare _ _ [Expr.Name (Str.ofString "DIGITS") _] _] _) _ _ _) _) _ _ _); refine held ?_))) | ((with_reducible show (if _ then _ else _)); with_reducible ((k_closed; first | refine ite_pos (by decide +kernel) ?_ | refine ite_neg (by decide +kernel) ?_))) | ((with_reducible show wpAny _ _ (subscriptTail _ _ _ _) _ _ _); with_reducible ((refine item_str (by decide) (by decide) (by decide) ?_; intro _; walk_say "CLOSED SIGN"))) | ((with_reducible show wpAny _ _ (eval (Expr.Call _ _ _ _) _) _ _ _); with_reducible ((first | refine Call_ ?_ | with_reducible refine Call_ ?_ | k_dflt (refine Call_ ?_)))) | with_reducible ((k_here; with_reducible refine' loadL ?F ?e ?v ?_ ?k ?x; k_dflt (tm_at "c1"; (case k => exact rfl); (case x => kernel_rfl); k_whole))) | ((with_reducible show wpAny _ _ (call (Value.ref _) _) _ _ _); first | with_reducible ((first | (k_here; (with_reducible show wpAny _ _ (call (Value.ref 65) [Value.int _ _]) _ _ _); k_dflt (refine' Tel.useS (fitted_ok _ _ _ _ ?p1 ?p2) ?k1 ?k2 ?k3 ?k4 ?k5 ?k6 ?k7 ?k8 ?kr; tm_at "u1"; (case p1 => first | omega | decide); (case p2 => first | omega | decide); skip); (intro h9 tk9 F9 N9)) | (k_here; (with_reducible show wpAny _ _ (call (Value.ref 65) [Value.int _ _]) _ _ _); k_dflt (ktr_call z9 (fitted_ok _ _ _ _ ?p1 ?p2); (case p1 => first | omega | decide); (case p2 => first | omega | decide); skip); walk_at "my_ret")))) | walk1 | (dsimp only; walk1) | (leave1; (try dsimp only)) | fail "no step"))
    unfold Held
    refine whl_start 0 ?_
    refine' vdig (x := "-32768") (by kernel_rfl) (by kernel_rfl) (by kernel_rfl) B X T ?_ ?_ hP (by decide +kernel) (tx_ok (by decide +kernel)) 5 _ 0 _ _ _ _ _ _ _ _ ?h1 ?h2 ?h3 ?h4 ?h5 ?h6 ?h7 ?h8 ?hQ ?hE
    case h3 => k_asm
    case h4 => k_asm
    case h5 => ((try dsimp only); tm_at "lk")
    case h6 => ((try dsimp only); tm_at "lk")
    case h7 => ((try dsimp only); tm_at "lk")
    case h8 => ((try dsimp only); tm_at "lk")
    case h1 => decide +kernel
    case h2 => decide +kernel
    case hE => exact fun e h h' tk' m' a F N M => absurd a (by decide +kernel)
    case hQ =>
      intro n' tn' h' tk' m' e F N hb hf
      obtain rfl := dval (b := 32768) e (by decide +kernel)
      (try dsimp only)
      (repeat' (first | (k_unfold; (try dsimp only)) | (k_end; kc_close) | ((with_reducible show wpAny _ _ (exec (Stmt.While _ _ _ _) _) _ _ _); with_reducible ((k_here; (with_reducible show wpAny _ _ (exec (Stmt.While (Expr.BoolOp _ [_, Expr.Compare _ _ [Expr.Name (Str.ofString "DIGITS") _] _] _) _ _ _) _) _ _ _); refine held ?_))) | ((with_reducible show (if _ then _ else _)); with_reducible ((k_closed; first | refine ite_pos (by decide +kernel) ?_ | refine ite_neg (by decide +kernel) ?_))) | ((with_reducible show wpAny _ _ (subscriptTail _ _ _ _) _ _ _); with_reducible ((refine item_str (by decide) (by decide) (by decide) ?_; intro _; walk_say "CLOSED SIGN"))) | ((with_reducible show wpAny _ _ (eval (Expr.Call _ _ _ _) _) _ _ _); with_reducible ((first | refine Call_ ?_ | with_reducible refine Call_ ?_ | k_dflt (refine Call_ ?_)))) | with_reducible ((k_here; with_reducible refine' loadL ?F ?e ?v ?_ ?k ?x; k_dflt (tm_at "c1"; (case k => exact rfl); (case x => kernel_rfl); k_whole))) | ((with_reducible show wpAny _ _ (call (Value.ref _) _) _ _ _); first | with_reducible ((first | (k_here; (with_reducible show wpAny _ _ (call (Value.ref 65) [Value.int _ _]) _ _ _); k_dflt (refine' Tel.useS (fitted_ok _ _ _ _ ?p1 ?p2) ?k1 ?k2 ?k3 ?k4 ?k5 ?k6 ?k7 ?k8 ?kr; tm_at "u1"; (case p1 => first | omega | decide); (case p2 => first | omega | decide); skip); (intro h9 tk9 F9 N9)) | (k_here; (with_reducible show wpAny _ _ (call (Value.ref 65) [Value.int _ _]) _ _ _); k_dflt (ktr_call z9 (fitted_ok _ _ _ _ ?p1 ?p2); (case p1 => first | omega | decide); (case p2 => first | omega | decide); skip); walk_at "my_ret")))) | walk1 | (dsimp only; walk1) | (leave1; (try dsimp only)) | fail "no step"))
      all_goals first | exact hret _ news _ _ (by k_asm) (by walk_at "my_drop") ⟨⟨_, rfl⟩, rfl⟩ | exact hret _ news _ _ (by k_asm) (by walk_at "my_drop") ⟨⟨_, congrArg (fun z => Value.int z _) (by decide)⟩, rfl⟩
    all_goals omega))) only [↓boxed]
theorem val7 (w : World) (t : Tok) (news : List (Addr × Obj)) : Tel w 149 [.str "99999" t] 20 200 news (fun _ _ => False) (fun k => k = "OV") := by
  refine Box.out ?_
  simp (disch :=
    k_dflt ((
    refine keepP ?_
    walk_at "my_go"
    intro lo mean mg mb dp un gd outer A₀ base h₀ L hp0 gn0 dr0 tk0 os0 Q E B F X N T hd0 hu0 hP hret hexcN hexc
    (try dsimp only at F)
    (repeat' (first | (k_unfold; (try dsimp only)) | (k_end; kc_close) | ((with_reducible show wpAny _ _ (exec (Stmt.While _ _ _ _) _) _ _ _); with_reducible ((k_here; (with_reducible show wpAny _ _ (exec (Stmt.While (Expr.BoolOp _ [_, Expr.Compare _ _ [Expr.Name (Str.ofString "DIGITS") _] _] _) _ _ _) _) _ _ _); refine held ?_))) | ((with_reducible show (if _ then _ else _)); with_reducible ((k_closed; first | refine ite_pos (by decide +kernel) ?_ | refine ite_neg (by decide +kernel) ?_))) | ((with_reducible show wpAny _ _ (subscriptTail _ _ _ _) _ _ _); with_reducible ((refine item_str (by decide) (by decide) (by decide) ?_; intro _; walk_say "CLOSED SIGN"))) | ((with_reducible show wpAny _ _ (eval (Expr.Call _ _ _ _) _) _ _ _); with_reducible ((first | refine Call_ ?_ | with_reducible refine Call_ ?_ | k_dflt (refine Call_ ?_)))) | walk1 | (dsimp only; walk1) | (leave1; (try dsimp only)) | fail "no step"))
    unfold Held
    refine whl_start 0 ?_
    refine' vdig (x := "99999") (by kernel_rfl) (by kernel_rfl) (by kernel_rfl) B X T ?_ ?_ hP (by decide +kernel) (tx_ok (by decide +kernel)) 5 _ 0 _ _ _ _ _ _ _ _ ?h1 ?h2 ?h3 ?h4 ?h5 ?h6 ?h7 ?h8 ?hQ ?hE
    case h3 => k_asm
    case h4 => k_asm
    case h5 => ((try dsimp only); tm_at "lk")
    case h6 => ((try dsimp only); tm_at "lk")
    case h7 => ((try dsimp only); tm_at "lk")
    case h8 => ((try dsimp only); tm_at "lk")
    case h1 => decide +kernel
    case h2 => decide +kernel
    case hQ => exact fun n' tn' h' tk' m' e F N hb hf => (dnone e (by decide +kernel)).elim
    case hE => exact fun e h h' tk' m' a F N M => hexcN _ _ _ _ _ _ rfl F N M (by walk_at "my_subs")
    all_goals omega))) only [↓boxed]
theorem val8 (w : World) (t : Tok) (news : List (Addr × Obj)) : Tel w 149 [.str "ab" t] 20 200 news (fun v n => IsI (0) v ∧ n = news) (fun _ => False) := by
  refine Box.out ?_
  simp (disch :=
    k_dflt ((
    refine keepP ?_
    walk_at "my_go"
    intro lo mean mg mb dp un gd outer A₀ base h₀ L hp0 gn0 dr0 tk0 os0 Q E B F X N T hd0 hu0 hP hret hexcN hexc
    (try dsimp only at F)
    (repeat' (first | (k_unfold; (try dsimp only)) | (k_end; kc_close) | ((with_reducible show wpAny _ _ (exec (Stmt.While _ _ _ _) _) _ _ _); with_reducible ((k_here; (with_reducible show wpAny _ _ (exec (Stmt.While (Expr.BoolOp _ [_, Expr.Compare _ _ [Expr.Name (Str.ofString "DIGITS") _] _] _) _ _ _) _) _ _ _); refine held ?_))) | ((with_reducible show (if _ then _ else _)); with_reducible ((k_closed; first | refine ite_pos (by decide +kernel) ?_ | refine ite_neg (by decide +kernel) ?_))) | ((with_reducible show wpAny _ _ (subscriptTail _ _ _ _) _ _ _); with_reducible ((refine item_str (by decide) (by decide) (by decide) ?_; intro _; walk_say "CLOSED SIGN"))) | ((with_reducible show wpAny _ _ (eval (Expr.Call _ _ _ _) _) _ _ _); with_reducible ((first | refine Call_ ?_ | with_reducible refine Call_ ?_ | k_dflt (refine Call_ ?_)))) | ((with_reducible show wpAny _ _ (call (Value.ref _) _) _ _ _); first | with_reducible ((first | (k_here; (with_reducible show wpAny _ _ (call (Value.ref 65) [Value.int _ _]) _ _ _); k_dflt (refine' Tel.useS (fitted_ok _ _ _ _ ?p1 ?p2) ?k1 ?k2 ?k3 ?k4 ?k5 ?k6 ?k7 ?k8 ?kr; tm_at "u1"; (case p1 => first | omega | decide); (case p2 => first | omega | decide); skip); (intro h9 tk9 F9 N9)) | (k_here; (with_reducible show wpAny _ _ (call (Value.ref 65) [Value.int _ _]) _ _ _); k_dflt (ktr_call z9 (fitted_ok _ _ _ _ ?p1 ?p2); (case p1 => first | omega | decide); (case p2 => first | omega | decide); skip); walk_at "my_ret")))) | walk1 | (dsimp only; walk1) | (leave1; (try dsimp only)) | fail "no step"))
    unfold Held
    refine whl_start 0 ?_
    refine' vdig (x := "ab") (by kernel_rfl) (by kernel_rfl) (by kernel_rfl) B X T ?_ ?_ hP (by decide +kernel) (tx_ok (by decide +kernel)) 2 _ 0 _ _ _ _ _ _ _ _ ?h1 ?h2 ?h3 ?h4 ?h5 ?h6 ?h7 ?h8 ?hQ ?hE
    case h3 => k_asm
    case h4 => k_asm
    case h5 => ((try dsimp only); tm_at "lk")
    case h6 => ((try dsimp only); tm_at "lk")
    case h7 => ((try dsimp only); tm_at "lk")
    case h8 => ((try dsimp only); tm_at "lk")
    case h1 => decide +kernel
    case h2 => decide +kernel
    case hE => exact fun e h h' tk' m' a F N M => absurd a (by decide +kernel)
    case hQ =>
      intro n' tn' h' tk' m' e F N hb hf
      obtain rfl := dval (b := 0) e (by decide +kernel)
      (try dsimp only)
      (repeat' (first | (k_unfold; (try dsimp only)) | (k_end; kc_close) | ((with_reducible show wpAny _ _ (exec (Stmt.While _ _ _ _) _) _ _ _); with_reducible ((k_here; (with_reducible show wpAny _ _ (exec (Stmt.While (Expr.BoolOp _ [_, Expr.Compare _ _ [Expr.Name (Str.ofString "DIGITS") _] _] _) _ _ _) _) _ _ _); refine held ?_))) | ((with_reducible show (if _ then _ else _)); with_reducible ((k_closed; first | refine ite_pos (by decide +kernel) ?_ | refine ite_neg (by decide +kernel) ?_))) | ((with_reducible show wpAny _ _ (subscriptTail _ _ _ _) _ _ _); with_reducible ((refine item_str (by decide) (by decide) (by decide) ?_; intro _; walk_say "CLOSED SIGN"))) | ((with_reducible show wpAny _ _ (eval (Expr.Call _ _ _ _) _) _ _ _); with_reducible ((first | refine Call_ ?_ | with_reducible refine Call_ ?_ | k_dflt (refine Call_ ?_)))) | ((with_reducible show wpAny _ _ (call (Value.ref _) _) _ _ _); first | with_reducible ((first | (k_here; (with_reducible show wpAny _ _ (call (Value.ref 65) [Value.int _ _]) _ _ _); k_dflt (refine' Tel.useS (fitted_ok _ _ _ _ ?p1 ?p2) ?k1 ?k2 ?k3 ?k4 ?k5 ?k6 ?k7 ?k8 ?kr; tm_at "u1"; (case p1 => first | omega | decide); (case p2 => first | omega | decide); skip); (intro h9 tk9 F9 N9)) | (k_here; (with_reducible show wpAny _ _ (call (Value.ref 65) [Value.int _ _]) _ _ _); k_dflt (ktr_call z9 (fitted_ok _ _ _ _ ?p1 ?p2); (case p1 => first | omega | decide); (case p2 => first | omega | decide); skip); walk_at "my_ret")))) | walk1 | (dsimp only; walk1) | (leave1; (try dsimp only)) | fail "no step"))
      all_goals first | exact hret _ news _ _ (by k_asm) (by walk_at "my_drop") ⟨⟨_, rfl⟩, rfl⟩ | exact hret _ news _ _ (by k_asm) (by walk_at "my_drop") ⟨⟨_, congrArg (fun z => Value.int z _) (by decide)⟩, rfl⟩
    all_goals omega))) only [↓boxed]
end
section
noncomputable def TXTS : List PySem.Str := ["", "abab", "b", "12x", " -7", "32768", "-32768", "99999", "ab"]
noncomputable def NUMS : List Int := [0, 1, 2, 3, -1, 255, 256, 32767, -32767]
noncomputable def Dv.In : Dv → Prop
  | .n x => x ∈ NUMS
  | .s x => x ∈ TXTS
theorem txts_ok : ∀ x ∈ TXTS, x.length ≤ 100 ∧ PyData.strOk x = true := by decide +kernel
theorem nums_ok : ∀ x ∈ NUMS, -32767 ≤ x ∧ x ≤ 32767 := by decide +kernel
theorem Dv.In.ok {d : Dv} (h : d.In) : d.Ok := by
  cases d with
  | n x => exact nums_ok x h
  | s x => exact ⟨Nat.le_trans (txts_ok x h).1 (by decide), (txts_ok x h).2⟩
noncomputable def ArgsAt (ds : List Dv) (ws : List Value) : Prop := ws.length = ds.length ∧ ∀ (i : Nat) (d : Dv), ds[i]? = some d → ∃ w, ws[i]? = some w ∧ IsD d w
theorem ArgsAt.nil {ws : List Value} (h : ArgsAt [] ws) : ws = [] := List.eq_nil_of_length_eq_zero h.1
theorem ArgsAt.cons {d : Dv} {ds : List Dv} {ws : List Value} (h : ArgsAt (d :: ds) ws) : ∃ w r, ws = w :: r ∧ IsD d w ∧ ArgsAt ds r := by
  obtain ⟨h1, h2⟩ := h
  cases ws with
  | nil => simp at h1
  | cons w r =>
    refine ⟨w, r, rfl, ?_, by simpa using h1, fun i d' e => by simpa using h2 (i + 1) d' (by simpa using e)⟩
    obtain ⟨w', e, q⟩ := h2 0 d rfl
    simp at e; subst e; exact q
noncomputable def WORDS : List PySem.Str := ["SGN", "ABS", "LEN", "STR$", "VAL", "ASC", "CHR$", "LEFT$", "RIGHT$", "MID$", "RND", "INSTR"]
abbrev isNum (x : PySem.Str) : Bool := [Str.ofString "SGN", Str.ofString "ABS", Str.ofString "STR$", Str.ofString "CHR$", Str.ofString "RND"].any fun y => y == x
noncomputable def argToks : List Dv → List Tk
  | [] => [mkT "sign" (.s ")")]
  | [d] => toksOf d ++ [mkT "sign" (.s ")")]
  | d :: d2 :: r => toksOf d ++ mkT "sign" (.s ",") :: argToks (d2 :: r)
noncomputable def lawToks (wd : PySem.Str) (ds : List Dv) : List Tk := mkT "word" (.s wd) :: mkT "sign" (.s "(") :: argToks ds
end
section
noncomputable def valRes (x : PySem.Str) : Res :=
  if x = "12x" then .ok (.n 12) else if x = " -7" then .ok (.n (-7)) else if x = "-32768" then .ok (.n (-32768)) else if x = "32768" then .bad "OV" else if x = "99999" then .bad "OV" else .ok (.n 0)
noncomputable def lenR : List Dv → Res
  | .s x :: _ => .ok (.n x.length)
  | _ => .bad "TM"
noncomputable def valR : List Dv → Res
  | .s x :: _ => valRes x
  | _ => .bad "TM"
noncomputable def ascR : List Dv → Res
  | .s x :: _ => if x = "" then .bad "FC" else .ok (.n (Builtin.bitAnd (((Txt.item x 0).cps.getD 0 0 : Nat) : Int) 255))
  | _ => .bad "TM"
noncomputable def leftR : List Dv → Res
  | .s x :: .n y :: _ => if y < 0 ∨ 255 < y then .bad "FC" else .ok (.s (Txt.slice x none (some y)))
  | _ => .bad "TM"
noncomputable def rightR : List Dv → Res
  | .s x :: .n y :: _ => if y < 0 ∨ 255 < y then .bad "FC" else .ok (.s (Txt.slice x (some (if (0 : Int) > (x.length : Int) - y then 0 else (x.length : Int) - y)) none))
  | _ => .bad "TM"
noncomputable def midR : List Dv → Res
  | .s x :: .n y :: r => if y < 1 ∨ 255 < y then .bad "FC" else match r with
    | [] => .ok (.s (Txt.slice x (some (y - 1)) (some (y - 1 + 255))))
    | .n z :: _ => if z < 0 ∨ 255 < z then .bad "FC" else .ok (.s (Txt.slice x (some (y - 1)) (some (y - 1 + z))))
    | .s _ :: _ => .bad "TM"
  | _ => .bad "TM"
noncomputable def insR : List Dv → Res
  | [.s x, .s x2] => .ok (.n (plV 1 x x2))
  | [.n y, a, b] => if y < 1 ∨ 255 < y then .bad "FC" else match a, b with
    | .s x, .s x2 => .ok (.n (plV y x x2))
    | _, _ => .bad "TM"
  | _ => .bad "TM"
noncomputable def textRes (wd : PySem.Str) (ds : List Dv) : Res :=
  if wd = "LEN" then lenR ds else if wd = "VAL" then valR ds else if wd = "ASC" then ascR ds else if wd = "LEFT$" then leftR ds else if wd = "RIGHT$" then rightR ds else if wd = "MID$" then midR ds else insR ds
theorem textRes_len (ds) : textRes "LEN" ds = lenR ds := if_pos rfl
theorem textRes_val (ds) : textRes "VAL" ds = valR ds := (if_neg (by decide +kernel)).trans (if_pos rfl)
theorem textRes_asc (ds) : textRes "ASC" ds = ascR ds := (if_neg (by decide +kernel)).trans ((if_neg (by decide +kernel)).trans (if_pos rfl))
theorem textRes_left (ds) : textRes "LEFT$" ds = leftR ds := (if_neg (by decide +kernel)).trans ((if_neg (by decide +kernel)).trans ((if_neg (by decide +kernel)).trans (if_pos rfl)))
theorem textRes_right (ds) : textRes "RIGHT$" ds = rightR ds := (if_neg (by decide +kernel)).trans ((if_neg (by decide +kernel)).trans ((if_neg (by decide +kernel)).trans ((if_neg (by decide +kernel)).trans (if_pos rfl))))
theorem textRes_mid (ds) : textRes "MID$" ds = midR ds := (if_neg (by decide +kernel)).trans ((if_neg (by decide +kernel)).trans ((if_neg (by decide +kernel)).trans ((if_neg (by decide +kernel)).trans ((if_neg (by decide +kernel)).trans (if_pos rfl)))))
theorem textRes_ins (ds) : textRes "INSTR" ds = insR ds := (if_neg (by decide +kernel)).trans ((if_neg (by decide +kernel)).trans ((if_neg (by decide +kernel)).trans ((if_neg (by decide +kernel)).trans ((if_neg (by decide +kernel)).trans (if_neg (by decide +kernel))))))
end
section
theorem Tel.bad {w : World} {f : Addr} {vs : List Value} {d u : Nat} {news : List (Addr × Obj)} {k : PySem.Str} {r : Res} (C : Tel w f vs d u news (fun _ _ => False) (fun k' => k' = k)) (e : r = .bad k) : Tel w f vs d u news (RetR r news) (ExcR r) :=
  C.mono (Nat.le_refl _) (Nat.le_refl _) (fun _ _ z => z.elim) fun k' z => by subst z; exact e
theorem Tel.fine {w : World} {f : Addr} {vs : List Value} {d u : Nat} {news : List (Addr × Obj)} {r : Res} {x : Dv} {P : Value → Prop} (C : Tel w f vs d u news (fun v n => P v ∧ n = news) (fun _ => False)) (e : r = .ok x) (q : ∀ v, P v → IsD x v) : Tel w f vs d u news (RetR r news) (ExcR r) :=
  C.mono (Nat.le_refl _) (Nat.le_refl _) (fun v n z => ⟨x, e, q v z.1, z.2⟩) fun _ z => z.elim
theorem val_all (w : World) (x : PySem.Str) (t : Tok) (news : List (Addr × Obj)) (h : x ∈ TXTS) : Tel w 149 [.str x t] 20 200 news (RetR (valRes x) news) (ExcR (valRes x)) := by
  simp only [TXTS, List.mem_cons, List.not_mem_nil, or_false] at h
  rcases h with rfl | rfl | rfl | rfl | rfl | rfl | rfl | rfl | rfl
  · exact (val0 w t news).fine (x := .n 0) (by kernel_rfl) fun _ z => z
  · exact (val1 w t news).fine (x := .n 0) (by kernel_rfl) fun _ z => z
  · exact (val2 w t news).fine (x := .n 0) (by kernel_rfl) fun _ z => z
  · exact (val3 w t news).fine (x := .n 12) (by kernel_rfl) fun _ z => z
  · exact (val4 w t news).fine (x := .n (-7)) (by kernel_rfl) fun _ z => z
  · exact (val5 w t news).bad (by kernel_rfl)
  · exact (val6 w t news).fine (x := .n (-32768)) (by kernel_rfl) fun _ z => z
  · exact (val7 w t news).bad (by kernel_rfl)
  · exact (val8 w t news).fine (x := .n 0) (by kernel_rfl) fun _ z => z
theorem one_of {wd : PySem.Str} {ds : List Dv} (h : crP wd (ds.length : Int) = true) (h1 : isLR wd = false) (h2 : isMI wd = false) : ∃ d, ds = [d] := by
  rw [crP_o h1 h2] at h
  have h := eq_of_beq h
  match ds, h with
  | [d], _ => exact ⟨d, rfl⟩
  | [], h => simp at h
  | _ :: _ :: _, h => simp at h; omega
theorem two_of {wd : PySem.Str} {ds : List Dv} (h : crP wd (ds.length : Int) = true) (h1 : isLR wd = true) : ∃ d d2, ds = [d, d2] := by
  rw [crP_l h1] at h
  have h := eq_of_beq h
  match ds, h with
  | [d, d2], _ => exact ⟨d, d2, rfl⟩
  | [], h => simp at h
  | [_], h => simp at h
  | _ :: _ :: _ :: _, h => simp at h; omega
theorem many_of {wd : PySem.Str} {ds : List Dv} (h : crP wd (ds.length : Int) = true) (h1 : isLR wd = false) (h2 : isMI wd = true) : (∃ d d2, ds = [d, d2]) ∨ ∃ d d2 d3, ds = [d, d2, d3] := by
  rw [crP_m h1 h2] at h
  simp only [List.any_cons, List.any_nil, Bool.or_false, Bool.or_eq_true, beq_iff_eq] at h
  match ds, h with
  | [d, d2], _ => exact .inl ⟨d, d2, rfl⟩
  | [d, d2, d3], _ => exact .inr ⟨d, d2, d3, rfl⟩
  | [], h => simp at h
  | [_], h => simp at h
  | _ :: _ :: _ :: _ :: _, h => simp at h; omega
theorem mid_all (w : World) (ds : List Dv) (hl : (∃ d d2, ds = [d, d2]) ∨ ∃ d d2 d3, ds = [d, d2, d3]) (hin : ∀ d ∈ ds, d.In) (ws : List Value) (hA : ArgsAt ds ws) (l k : Nat) (news : List (Addr × Obj)) (h1 : (l, listObj ws k) ∈ news) :
    Tel w 156 [.ref l] 20 200 news (RetR (midR ds) news) (ExcR (midR ds)) := by
  have fst : ∀ x r, ds = .s x :: r → x.length ≤ 100 ∧ PyData.strOk x = true := fun x r e => txts_ok x (hin (.s x) (e ▸ .head _))
  rcases hl with ⟨a, b, rfl⟩ | ⟨a, b, c, rfl⟩
  · obtain ⟨w1, r1, rfl, i1, A1⟩ := hA.cons
    obtain ⟨w2, r2, rfl, i2, A2⟩ := A1.cons
    obtain rfl := A2.nil
    cases a with
    | n y => obtain ⟨t, rfl⟩ := i1; exact (mid1 w y t _ l k news h1).bad rfl
    | s x =>
      obtain ⟨t, rfl⟩ := i1
      obtain ⟨f1, f2⟩ := fst _ _ rfl
      cases b with
      | s x2 => obtain ⟨t2, rfl⟩ := i2; exact (mid2 w x t f2 f1 x2 t2 _ l k news h1).bad rfl
      | n y =>
        obtain ⟨t2, rfl⟩ := i2
        by_cases hy : y < 1 ∨ 255 < y
        · exact (mid3 w x t f2 f1 y t2 hy _ l k news h1).bad (if_pos hy)
        · exact (mid4 w x t f2 f1 y t2 (by omega) (by omega) l k news h1).fine (x := .s _) (if_neg hy) fun _ z => z
  · obtain ⟨w1, r1, rfl, i1, A1⟩ := hA.cons
    obtain ⟨w2, r2, rfl, i2, A2⟩ := A1.cons
    obtain ⟨w3, r3, rfl, i3, A3⟩ := A2.cons
    obtain rfl := A3.nil
    cases a with
    | n y => obtain ⟨t, rfl⟩ := i1; exact (mid1 w y t _ l k news h1).bad rfl
    | s x =>
      obtain ⟨t, rfl⟩ := i1
      obtain ⟨f1, f2⟩ := fst _ _ rfl
      cases b with
      | s x2 => obtain ⟨t2, rfl⟩ := i2; exact (mid2 w x t f2 f1 x2 t2 _ l k news h1).bad rfl
      | n y =>
        obtain ⟨t2, rfl⟩ := i2
        by_cases hy : y < 1 ∨ 255 < y
        · exact (mid3 w x t f2 f1 y t2 hy _ l k news h1).bad (if_pos hy)
        · cases c with
          | s x2 => obtain ⟨t3, rfl⟩ := i3; exact (mid5 w x t f2 f1 y t2 (by omega) (by omega) x2 t3 l k news h1).bad (if_neg hy)
          | n z =>
            obtain ⟨t3, rfl⟩ := i3
            by_cases hz : z < 0 ∨ 255 < z
            · exact (mid6 w x t f2 f1 y t2 (by omega) (by omega) z t3 hz l k news h1).bad ((if_neg hy).trans (if_pos hz))
            · exact (mid7 w x t f2 f1 y t2 (by omega) (by omega) z t3 (by omega) (by omega) l k news h1).fine (x := .s _) ((if_neg hy).trans (if_neg hz)) fun _ z => z
theorem ins_all (w : World) (ds : List Dv) (hl : (∃ d d2, ds = [d, d2]) ∨ ∃ d d2 d3, ds = [d, d2, d3]) (hin : ∀ d ∈ ds, d.In) (ws : List Value) (hA : ArgsAt ds ws) (l k : Nat) (news : List (Addr × Obj)) (h1 : (l, listObj ws k) ∈ news) :
    Tel w 163 [.ref l] 20 200 news (RetR (insR ds) news) (ExcR (insR ds)) := by
  have mem : ∀ x, Dv.s x ∈ ds → x.length ≤ 100 ∧ PyData.strOk x = true := fun x e => txts_ok x (hin (.s x) e)
  rcases hl with ⟨a, b, rfl⟩ | ⟨a, b, c, rfl⟩
  · obtain ⟨w1, r1, rfl, i1, A1⟩ := hA.cons
    obtain ⟨w2, r2, rfl, i2, A2⟩ := A1.cons
    obtain rfl := A2.nil
    cases a with
    | n y => obtain ⟨t, rfl⟩ := i1; exact (pl6 w y t _ l k news h1).bad rfl
    | s x =>
      obtain ⟨t, rfl⟩ := i1
      obtain ⟨f1, f2⟩ := mem x (by simp)
      cases b with
      | n z => obtain ⟨t2, rfl⟩ := i2; exact (pl7 w x t f2 f1 z t2 l k news h1).bad rfl
      | s x2 =>
        obtain ⟨t2, rfl⟩ := i2
        obtain ⟨g1, g2⟩ := mem x2 (by simp)
        exact (pl8 w x t f2 f1 x2 t2 g2 g1 l k news h1).fine (x := .n _) rfl fun _ z => z
  · obtain ⟨w1, r1, rfl, i1, A1⟩ := hA.cons
    obtain ⟨w2, r2, rfl, i2, A2⟩ := A1.cons
    obtain ⟨w3, r3, rfl, i3, A3⟩ := A2.cons
    obtain rfl := A3.nil
    cases a with
    | s x => obtain ⟨t, rfl⟩ := i1; exact (pl1 w x t _ _ l k news h1).bad (by cases b <;> rfl)
    | n y =>
      obtain ⟨t, rfl⟩ := i1
      by_cases hy : y < 1 ∨ 255 < y
      · exact (pl2 w y t hy _ _ l k news h1).bad (if_pos hy)
      · cases b with
        | n z => obtain ⟨t2, rfl⟩ := i2; exact (pl3 w y t (by omega) (by omega) z t2 _ l k news h1).bad (if_neg hy)
        | s x =>
          obtain ⟨t2, rfl⟩ := i2
          obtain ⟨f1, f2⟩ := mem x (by simp)
          cases c with
          | n z => obtain ⟨t3, rfl⟩ := i3; exact (pl4 w y t (by omega) (by omega) x t2 f2 f1 z t3 l k news h1).bad (if_neg hy)
          | s x2 =>
            obtain ⟨t3, rfl⟩ := i3
            obtain ⟨g1, g2⟩ := mem x2 (by simp)
            exact (pl5 w y t (by omega) (by omega) x t2 f2 f1 x2 t3 g2 g1 l k news h1).fine (x := .n _) (if_neg hy) fun _ z => z
theorem oft_all (w : World) (wd : PySem.Str) (hw : wd = "LEN" ∨ wd = "VAL" ∨ wd = "ASC" ∨ wd = "LEFT$" ∨ wd = "RIGHT$" ∨ wd = "MID$" ∨ wd = "INSTR") (ds : List Dv) (hcr : crP wd (ds.length : Int) = true) (hin : ∀ d ∈ ds, d.In) (ws : List Value) (hA : ArgsAt ds ws) (t : Tok) (l k : Nat) (news : List (Addr × Obj)) (h1 : (l, listObj ws k) ∈ news) :
    Tel w 170 [.str wd t, .ref l] 40 400 news (RetR (textRes wd ds) news) (ExcR (textRes wd ds)) := by
  have mem : ∀ x, Dv.s x ∈ ds → x.length ≤ 100 ∧ PyData.strOk x = true := fun x e => txts_ok x (hin (.s x) e)
  rcases hw with rfl | rfl | rfl | rfl | rfl | rfl | rfl
  · obtain ⟨a, rfl⟩ := one_of hcr (by decide +kernel) (by decide +kernel)
    obtain ⟨w1, r1, rfl, i1, A1⟩ := hA.cons
    obtain rfl := A1.nil
    rw [textRes_len]
    cases a with
    | n y => obtain ⟨t1, rfl⟩ := i1; exact (ot_len_i w t y t1 _ l k news h1).bad rfl
    | s x =>
      obtain ⟨t1, rfl⟩ := i1
      obtain ⟨f1, f2⟩ := mem x (by simp)
      exact (ot_len w t x t1 f2 f1 l k news h1).fine (x := .n _) rfl fun _ z => z
  · obtain ⟨a, rfl⟩ := one_of hcr (by decide +kernel) (by decide +kernel)
    obtain ⟨w1, r1, rfl, i1, A1⟩ := hA.cons
    obtain rfl := A1.nil
    rw [textRes_val]
    cases a with
    | n y => obtain ⟨t1, rfl⟩ := i1; exact (ot_val_i w t y t1 _ l k news h1).bad rfl
    | s x =>
      obtain ⟨t1, rfl⟩ := i1
      obtain ⟨f1, f2⟩ := mem x (by simp)
      exact ot_val w t x t1 f2 f1 l k news _ _ (val_all w x t1 news (hin (.s x) (by simp))) h1
  · obtain ⟨a, rfl⟩ := one_of hcr (by decide +kernel) (by decide +kernel)
    obtain ⟨w1, r1, rfl, i1, A1⟩ := hA.cons
    obtain rfl := A1.nil
    rw [textRes_asc]
    cases a with
    | n y => obtain ⟨t1, rfl⟩ := i1; exact (ot_asc_i w t y t1 _ l k news h1).bad rfl
    | s x =>
      obtain ⟨t1, rfl⟩ := i1
      obtain ⟨f1, f2⟩ := mem x (by simp)
      by_cases hx : x = ""
      · subst hx; exact (ot_asc0 w t t1 l k news h1).bad (by kernel_rfl)
      · have hlen : ∀ x ∈ TXTS, x ≠ "" → 0 < x.length := by decide +kernel
        exact (ot_asc w t x t1 f2 f1 hx (hlen x (hin (.s x) (by simp)) hx) l k news h1).fine (x := .n _) (if_neg hx) fun _ z => z
  · obtain ⟨a, b, rfl⟩ := two_of hcr (by decide +kernel)
    obtain ⟨w1, r1, rfl, i1, A1⟩ := hA.cons
    obtain ⟨w2, r2, rfl, i2, A2⟩ := A1.cons
    obtain rfl := A2.nil
    rw [textRes_left]
    cases a with
    | n y => obtain ⟨t1, rfl⟩ := i1; exact (ot_left_i w t y t1 _ l k news h1).bad rfl
    | s x =>
      obtain ⟨t1, rfl⟩ := i1
      obtain ⟨f1, f2⟩ := mem x (by simp)
      cases b with
      | s x2 => obtain ⟨t2, rfl⟩ := i2; exact (ot_left_s w t x t1 f2 f1 x2 t2 _ l k news h1).bad rfl
      | n y =>
        obtain ⟨t2, rfl⟩ := i2
        by_cases hy : y < 0 ∨ 255 < y
        · exact (ot_left_b w t x t1 f2 f1 y t2 hy _ l k news h1).bad (if_pos hy)
        · exact (ot_left w t x t1 f2 f1 y t2 (by omega) (by omega) _ l k news h1).fine (x := .s _) (if_neg hy) fun _ z => z
  · obtain ⟨a, b, rfl⟩ := two_of hcr (by decide +kernel)
    obtain ⟨w1, r1, rfl, i1, A1⟩ := hA.cons
    obtain ⟨w2, r2, rfl, i2, A2⟩ := A1.cons
    obtain rfl := A2.nil
    rw [textRes_right]
    cases a with
    | n y => obtain ⟨t1, rfl⟩ := i1; exact (ot_right_i w t y t1 _ l k news h1).bad rfl
    | s x =>
      obtain ⟨t1, rfl⟩ := i1
      obtain ⟨f1, f2⟩ := mem x (by simp)
      cases b with
      | s x2 => obtain ⟨t2, rfl⟩ := i2; exact (ot_right_s w t x t1 f2 f1 x2 t2 _ l k news h1).bad rfl
      | n y =>
        obtain ⟨t2, rfl⟩ := i2
        by_cases hy : y < 0 ∨ 255 < y
        · exact (ot_right_b w t x t1 f2 f1 y t2 hy _ l k news h1).bad (if_pos hy)
        · exact (ot_right w t x t1 f2 f1 y t2 (by omega) (by omega) _ l k news h1).fine (x := .s _) (if_neg hy) fun _ z => z
  · rw [textRes_mid]
    exact ot_mid w t l news _ _ (mid_all w ds (many_of hcr (by decide +kernel) (by decide +kernel)) hin ws hA l k news h1)
  · rw [textRes_ins]
    exact ot_instr w t l news _ _ (ins_all w ds (many_of hcr (by decide +kernel) (by decide +kernel)) hin ws hA l k news h1)
end
section
theorem count_eq (w : World) (x : PySem.Str) (k : Int) (b : Bool) (t t1 : Tok) (news) (hok : PyData.strOk x = true) (h : crP x k = b) : Tel w 184 [.str x t, .int k t1] 5 40 news (fun v n => v = .bool b ∧ n = news) (fun _ => False) := h ▸ count_right_ w x k t t1 news hok
theorem size_len {ws : List Value} {ds : List Dv} (h : ws.length = ds.length) : (ws.toArray.size : Int) = (ds.length : Int) := by rw [List.size_toArray, h]
theorem args_mk {ds : List Dv} {ws : List Value} (h1 : ws.length = ds.length) (h2 : ∀ (i : Nat) (d : Dv), ds[i]? = some d → ∃ w, ws[i]? = some w ∧ IsD d w) : ArgsAt ds ws := ⟨h1, h2⟩
theorem count_1 (w : World) (x : PySem.Str) (k : Int) (hk : k = 1) (t t1 : Tok) (news) (hok : PyData.strOk x = true) (h : crP x 1 = true) : Tel w 184 [.str x t, .int k t1] 5 40 news (fun v n => v = .bool true ∧ n = news) (fun _ => False) := by subst hk; exact count_eq w x 1 true t t1 news hok h
set_option maxHeartbeats 8000000
local macro_rules | `(tactic| walk_at "my_retV") => `(tactic| ((case ke => exact fun _ _ _ _ _ _ hk9 => (show False from hk9).elim); intro v9 n9 h9 tk9 F9 N9 hv9; (unfold RetVals at hv9); obtain ⟨a9, l9, t9, k9, j9, ws9, e1, lt9, la9, len9, at9, e2⟩ := hv9; subst e1; replace e2 := e2.symm; subst e2; (try dsimp only); (try k_fold)))
local macro_rules | `(tactic| walk_at "my_retV1") => `(tactic| ((case ke => exact fun _ _ _ _ _ _ hk9 => (show False from hk9).elim); intro v9 n9 h9 tk9 F9 N9 hv9; (unfold RetVals at hv9); obtain ⟨a9, l9, t9, k9, j9, ws9, e1, lt9, la9, len9, at9, e2⟩ := hv9; obtain ⟨w9, r9, e3, i9, A9⟩ := ArgsAt.cons (args_mk len9 at9); replace A9 := A9.nil; subst A9; subst e3; clear len9 at9; subst e1; replace e2 := e2.symm; subst e2; (try dsimp only); (try k_fold)))
local macro_rules | `(tactic| walk_at "my_bothP") => `(tactic| ((case' kr => intro v9 n9 h9 tk9 F9 N9 hv9; obtain ⟨p9, e2⟩ := hv9; replace e2 := e2.symm; subst e2; (try dsimp only); (try k_fold)); (case' ke => intro k9 e9 g9 n9 h9 tk9 hk9 F9 U9 R9 hs9; (try dsimp only); (try k_fold))))
theorem call_bad (w : World) (wd : PySem.Str) (hok : PyData.strOk wd = true) (tk ta st : Addr) (n i j n2 : Nat) (vs : List Value) (t t0 t1 t2 : Tok) (dep : Int) (news : List (Addr × Obj)) (h1 : (tk, listObj vs n) ∈ news) (hx : vs[i]? = some (.ref ta)) (hi : i < vs.length) (hl : vs.length < 1000) (ha : (ta, tok2 "word" t1 (.str wd t2) n2) ∈ news) (ds : List Dv) (hds : ds.length ≤ 4) (hV : ∀ t t0, Tel w 198 [.ref tk, .int ((i + 1 : Nat) : Int) t, .ref st, .int dep t0] 50 500 news (RetVals ds j news) (fun _ => False)) (hcr : ∀ m : Nat, m = ds.length → crP wd (m : Int) = false)  : Tel w 191 [.ref tk, .int (i : Int) t, .ref st, .int dep t0] 60 600 news (fun _ _ => False) (fun k => k = "SN") := by
  refine Box.out ?_
  simp (disch :=
    k_dflt ((
    refine keepP ?_
    walk_at "my_go"
    intro lo mean mg mb dp un gd outer A₀ base h₀ L hp0 gn0 dr0 tk0 os0 Q E B F X N T hd0 hu0 hP hret hexcN hexc
    (try dsimp only at F)
    (repeat' (first | (k_unfold; (try dsimp only)) | (k_end; kc_close) | ((with_reducible show wpAny _ _ (binaryOp Operator.Add _ _) _ _ _); with_reducible (with_reducible refine add_nat1 ?_)) | ((with_reducible show wpAny _ _ (call (Value.ref _) _) _ _ _); first | with_reducible ((first | (k_here; (with_reducible show wpAny _ _ (call (Value.ref 184) [Value.str _ _, Value.int _ _]) _ _ _); k_dflt (refine' Tel.useS (count_eq _ _ _ _ _ _ _ ?p1 ?p2) ?k1 ?k2 ?k3 ?k4 ?k5 ?k6 ?k7 ?k8 ?kr; tm_at "u1"; (case p1 => assumption); (case p2 => first | (with_reducible assumption) | ((rename (∀ m : Nat, m = _ → _ = _) => h9); with_reducible exact h9 _ (by assumption))); skip); (intro h9 tk9 F9 N9)) | (k_here; (with_reducible show wpAny _ _ (call (Value.ref 184) [Value.str _ _, Value.int _ _]) _ _ _); k_dflt (ktr_call z9 (count_eq _ _ _ _ _ _ _ ?p1 ?p2); (case p1 => assumption); (case p2 => first | (with_reducible assumption) | ((rename (∀ m : Nat, m = _ → _ = _) => h9); with_reducible exact h9 _ (by assumption))); skip); walk_at "my_ret"))) | with_reducible ((k_here; (with_reducible show wpAny _ _ (call (Value.ref 198) [Value.ref _, Value.int _ _, Value.ref _, Value.int _ _]) _ _ _); k_dflt ((rename (∀ t t0, Tel _ 198 _ _ _ _ _ _) => hV9); ktr_call z9 (hV9 _ _)); walk_at "my_retV"))) | ((with_reducible show wpAny _ _ (subscriptTail _ _ _ _) _ _ _); first | with_reducible ((k_here; (with_reducible show wpAny _ _ (subscriptTail _ _ (Value.ref _) (Value.int _ _)) _ _ _); (with_unfolding_all refine' item_list (News.isList ?n ?m) ?h0 ?hf ?hx ?_ ?hs ?hg; (case n => k_asm); (case m => tm_at "mem"); (case h0 => omega); (case hf => omega); (case hx => first | ((simp only [List.getElem?_toArray, Int.toNat_natCast]); assumption) | exact get0 | exact get1 | exact get2 | exact get3); (case hs => with_unfolding_all rfl); (case hg => intro _; with_unfolding_all rfl); k_whole)))) | ((with_reducible show wpAny _ _ (call (Value.builtin _) _) _ _ _); first | with_reducible ((k_here; (with_reducible show wpAny _ _ (call (Value.builtin _) [Value.ref _]) _ _ _); k_dflt (refine' len_list (News.isList ?n ?m) ?f ?_; (case n => k_asm); (case m => tm_at "mem"); (case f => first | (simp only [List.size_toArray]; omega) | (simp only [List.size_toArray, List.length_cons, List.length_nil]; omega)); k_whole); (try simp only [List.size_toArray, List.length_cons, List.length_nil])))) | ((with_reducible show wpAny _ _ (exec (Stmt.Raise _ _ _) _) _ _ _); first | with_reducible ((k_here; k_dflt (refine' raise_B ?k1 ?k2 ?k3 ?k4 ?k5 ?k6 ?_; (case k1 => k_asm); (case k2 => k_asm); (case k3 => k_asm); (case k4 => exact rfl); (case k5 => walk_at "my_room"); (case k6 => walk_at "my_units"); k_whole); intro h' e' tk' hm'))) | walk1 | (dsimp only; walk1) | (leave1; (try dsimp only)) | fail "no step"))
    all_goals first | (first | exact hexc _ _ _ _ _ _ rfl (by k_asm) (by k_asm) (by k_asm) (by first | exact fun _ h => h | assumption | (intro p9 hp9; (rename (∀ p ∈ _, p ∈ _) => hs9x); exact hs9x p9 (by simp only [List.mem_cons, hp9, or_true]))) | exact hexcN _ _ _ _ _ _ rfl (by k_asm) (by k_asm) (by k_asm) (by first | exact fun _ h => h | assumption | (intro p9 hp9; (rename (∀ p ∈ _, p ∈ _) => hs9x); exact hs9x p9 (by simp only [List.mem_cons, hp9, or_true])))) | (first | exact hexc _ _ _ _ _ _ rfl (by k_asm) (by k_asm) (by k_asm) (by walk_at "my_subs") | exact hexcN _ _ _ _ _ _ rfl (by k_asm) (by k_asm) (by k_asm) (by walk_at "my_subs"))))) only [↓boxed]
theorem call_text (w : World) (wd : PySem.Str) (hok : PyData.strOk wd = true) (tk ta st : Addr) (n i j n2 : Nat) (vs : List Value) (t t0 t1 t2 : Tok) (dep : Int) (news : List (Addr × Obj)) (h1 : (tk, listObj vs n) ∈ news) (hx : vs[i]? = some (.ref ta)) (hi : i < vs.length) (hl : vs.length < 1000) (ha : (ta, tok2 "word" t1 (.str wd t2) n2) ∈ news) (ds : List Dv) (hds : ds.length ≤ 4) (hV : ∀ t t0, Tel w 198 [.ref tk, .int ((i + 1 : Nat) : Int) t, .ref st, .int dep t0] 50 500 news (RetVals ds j news) (fun _ => False)) (hcr : ∀ m : Nat, m = ds.length → crP wd (m : Int) = true) (hn : isNum wd = false) (P : Value → Prop) (Exc : PySem.Str → Prop) (keep : List (Addr × Obj)) (hO : ∀ (big : List (Addr × Obj)) (l : Nat) (ws : List Value) (k : Nat) (t : Tok), (∀ p ∈ news, p ∈ big) → (l, listObj ws k) ∈ big → ArgsAt ds ws → Tel w 170 [.str wd t, .ref l] 40 400 big (fun v n => P v ∧ n = big) Exc)  : Tel w 191 [.ref tk, .int (i : Int) t, .ref st, .int dep t0] 60 600 news (RetPair P j news) Exc := by
  refine Box.out ?_
  simp (disch :=
    k_dflt ((
    refine keepP ?_
    walk_at "my_go"
    intro lo mean mg mb dp un gd outer A₀ base h₀ L hp0 gn0 dr0 tk0 os0 Q E B F X N T hd0 hu0 hP hret hexcN hexc
    (try dsimp only at F)
    (repeat' (first | (k_unfold; (try dsimp only)) | (k_end; kc_close) | ((with_reducible show wpAny _ _ (binaryOp Operator.Add _ _) _ _ _); with_reducible (with_reducible refine add_nat1 ?_)) | ((with_reducible show wpAny _ _ (call (Value.ref _) _) _ _ _); first | with_reducible ((k_here; (with_reducible show wpAny _ _ (call (Value.ref 170) [Value.str _ _, Value.ref _]) _ _ _); k_dflt ((rename (∀ big l ws k t, _ → _ → _ → Tel _ 170 _ _ _ _ _ _) => hO9); ktr_call z9 (hO9 _ _ _ _ _ ?p1 ?p2 ?p3); (case p2 => tm_at "mem"); (case p1 => walk_at "my_subs"); (case p3 => exact ⟨by assumption, by assumption⟩); skip); walk_at "my_bothP")) | with_reducible ((first | (k_here; (with_reducible show wpAny _ _ (call (Value.ref 184) [Value.str _ _, Value.int _ _]) _ _ _); k_dflt (refine' Tel.useS (count_eq _ _ _ _ _ _ _ ?p1 ?p2) ?k1 ?k2 ?k3 ?k4 ?k5 ?k6 ?k7 ?k8 ?kr; tm_at "u1"; (case p1 => assumption); (case p2 => first | (with_reducible assumption) | ((rename (∀ m : Nat, m = _ → _ = _) => h9); with_reducible exact h9 _ (by assumption))); skip); (intro h9 tk9 F9 N9)) | (k_here; (with_reducible show wpAny _ _ (call (Value.ref 184) [Value.str _ _, Value.int _ _]) _ _ _); k_dflt (ktr_call z9 (count_eq _ _ _ _ _ _ _ ?p1 ?p2); (case p1 => assumption); (case p2 => first | (with_reducible assumption) | ((rename (∀ m : Nat, m = _ → _ = _) => h9); with_reducible exact h9 _ (by assumption))); skip); walk_at "my_ret"))) | with_reducible ((k_here; (with_reducible show wpAny _ _ (call (Value.ref 198) [Value.ref _, Value.int _ _, Value.ref _, Value.int _ _]) _ _ _); k_dflt ((rename (∀ t t0, Tel _ 198 _ _ _ _ _ _) => hV9); ktr_call z9 (hV9 _ _)); walk_at "my_retV"))) | ((with_reducible show wpAny _ _ (subscriptTail _ _ _ _) _ _ _); first | with_reducible ((k_here; (with_reducible show wpAny _ _ (subscriptTail _ _ (Value.ref _) (Value.int _ _)) _ _ _); (with_unfolding_all refine' item_list (News.isList ?n ?m) ?h0 ?hf ?hx ?_ ?hs ?hg; (case n => k_asm); (case m => tm_at "mem"); (case h0 => omega); (case hf => omega); (case hx => first | ((simp only [List.getElem?_toArray, Int.toNat_natCast]); assumption) | exact get0 | exact get1 | exact get2 | exact get3); (case hs => with_unfolding_all rfl); (case hg => intro _; with_unfolding_all rfl); k_whole)))) | ((with_reducible show wpAny _ _ (call (Value.builtin _) _) _ _ _); first | with_reducible ((k_here; (with_reducible show wpAny _ _ (call (Value.builtin _) [Value.ref _]) _ _ _); k_dflt (refine' len_list (News.isList ?n ?m) ?f ?_; (case n => k_asm); (case m => tm_at "mem"); (case f => first | (simp only [List.size_toArray]; omega) | (simp only [List.size_toArray, List.length_cons, List.length_nil]; omega)); k_whole); (try simp only [List.size_toArray, List.length_cons, List.length_nil])))) | walk1 | (dsimp only; walk1) | (leave1; (try dsimp only)) | fail "no step"))
    all_goals first | exact hret _ ((_, pairObj _ j _ _) :: news) _ _ (by first | k_asm | with_unfolding_all assumption) (dropx (by first | k_asm | with_unfolding_all assumption) (by walk_at "my_subs")) ⟨_, _, _, _, rfl, allLt_mem _ (by walk_at "my_allLt"), by assumption, rfl⟩ | (first | exact hexc _ _ _ _ _ _ (by assumption) (by k_asm) (by k_asm) (by k_asm) (by first | walk_at "my_subs" | (intro p9 hp9; (rename (∀ p ∈ _, p ∈ _) => hs9x); exact hs9x p9 (by simp only [List.mem_cons, hp9, or_true]))) | exact hexcN _ _ _ _ _ _ (by assumption) (by k_asm) (by k_asm) (by k_asm) (by first | walk_at "my_subs" | (intro p9 hp9; (rename (∀ p ∈ _, p ∈ _) => hs9x); exact hs9x p9 (by simp only [List.mem_cons, hp9, or_true]))))))) only [↓boxed]
theorem call_num (w : World) (wd : PySem.Str) (hok : PyData.strOk wd = true) (tk ta st : Addr) (n i j n2 : Nat) (vs : List Value) (t t0 t1 t2 : Tok) (dep : Int) (news : List (Addr × Obj)) (h1 : (tk, listObj vs n) ∈ news) (hx : vs[i]? = some (.ref ta)) (hi : i < vs.length) (hl : vs.length < 1000) (ha : (ta, tok2 "word" t1 (.str wd t2) n2) ∈ news) (d : Dv) (hV : ∀ t t0, Tel w 198 [.ref tk, .int ((i + 1 : Nat) : Int) t, .ref st, .int dep t0] 50 500 news (RetVals [d] j news) (fun _ => False)) (hcr : crP wd 1 = true) (hcr2 : crP wd ((0 + 1 : Nat) : Int) = true) (hn : isNum wd = true) (P : Value → Prop) (Exc : PySem.Str → Prop) (keep : List (Addr × Obj)) (hO : ∀ (a b l : Nat) (o0 o1 o2 : Obj) (t : Tok) (v : Value), (∀ p ∈ news, p.1 < l) → l < b → b < a → IsD d v → Tel w 177 [.str wd t, v, .ref st] 35 350 ((a, o0) :: (b, o1) :: (l, o2) :: news) (fun v n => P v ∧ n = keep) Exc)  : Tel w 191 [.ref tk, .int (i : Int) t, .ref st, .int dep t0] 60 600 news (RetPair P j keep) Exc := by
  refine Box.out ?_
  simp (disch :=
    k_dflt ((
    refine keepP ?_
    walk_at "my_go"
    intro lo mean mg mb dp un gd outer A₀ base h₀ L hp0 gn0 dr0 tk0 os0 Q E B F X N T hd0 hu0 hP hret hexcN hexc
    (try dsimp only at F)
    (repeat' (first | (k_unfold; (try dsimp only)) | (k_end; kc_close) | ((with_reducible show wpAny _ _ (binaryOp Operator.Add _ _) _ _ _); with_reducible (with_reducible refine add_nat1 ?_)) | ((with_reducible show wpAny _ _ (call (Value.ref _) _) _ _ _); first | with_reducible ((first | (k_here; (with_reducible show wpAny _ _ (call (Value.ref 184) [Value.str _ _, Value.int _ _]) _ _ _); k_dflt (refine' Tel.useS (count_1 _ _ _ ?p1 _ _ _ ?p2 ?p3) ?k1 ?k2 ?k3 ?k4 ?k5 ?k6 ?k7 ?k8 ?kr; tm_at "u1"; (case p1 => first | rfl | decide); (case p2 => assumption); (case p3 => with_reducible assumption); skip); (intro h9 tk9 F9 N9)) | (k_here; (with_reducible show wpAny _ _ (call (Value.ref 184) [Value.str _ _, Value.int _ _]) _ _ _); k_dflt (ktr_call z9 (count_1 _ _ _ ?p1 _ _ _ ?p2 ?p3); (case p1 => first | rfl | decide); (case p2 => assumption); (case p3 => with_reducible assumption); skip); walk_at "my_ret"))) | with_reducible ((k_here; (with_reducible show wpAny _ _ (call (Value.ref 177) [Value.str _ _, _, Value.ref _]) _ _ _); k_dflt ((rename (∀ a b l o0 o1 o2 t v, _ → _ → _ → _ → Tel _ 177 _ _ _ _ _ _) => hO9); ktr_call z9 (hO9 _ _ _ _ _ _ _ _ ?p1 ?p2 ?p3 ?p4); (case p1 => assumption); (case p2 => assumption); (case p3 => (first | assumption | exact And.left (by assumption) | exact And.left (And.right (by assumption)) | exact And.left (And.right (And.right (by assumption))) | exact And.left (And.right (And.right (And.right (by assumption)))) | exact And.left (And.right (And.right (And.right (And.right (by assumption))))) | exact And.left (And.right (And.right (And.right (And.right (And.right (by assumption)))))) | exact And.left (And.right (And.right (And.right (And.right (And.right (And.right (by assumption))))))) | exact And.left (And.right (And.right (And.right (And.right (And.right (And.right (And.right (by assumption)))))))) | exact And.left (And.right (And.right (And.right (And.right (And.right (And.right (And.right (And.right (by assumption))))))))) | exact And.left (And.right (And.right (And.right (And.right (And.right (And.right (And.right (And.right (And.right (by assumption)))))))))) | omega)); (case p4 => assumption); skip); walk_at "my_bothP")) | with_reducible ((k_here; (with_reducible show wpAny _ _ (call (Value.ref 198) [Value.ref _, Value.int _ _, Value.ref _, Value.int _ _]) _ _ _); k_dflt ((rename (∀ t t0, Tel _ 198 _ _ _ _ _ _) => hV9); ktr_call z9 (hV9 _ _)); walk_at "my_retV1"))) | ((with_reducible show wpAny _ _ (subscriptTail _ _ _ _) _ _ _); first | with_reducible ((k_here; (with_reducible show wpAny _ _ (subscriptTail _ _ (Value.ref _) (Value.int _ _)) _ _ _); (with_unfolding_all refine' item_list (News.isList ?n ?m) ?h0 ?hf ?hx ?_ ?hs ?hg; (case n => k_asm); (case m => tm_at "mem"); (case h0 => omega); (case hf => omega); (case hx => first | ((simp only [List.getElem?_toArray, Int.toNat_natCast]); assumption) | exact get0 | exact get1 | exact get2 | exact get3); (case hs => with_unfolding_all rfl); (case hg => intro _; with_unfolding_all rfl); k_whole)))) | ((with_reducible show wpAny _ _ (call (Value.builtin _) _) _ _ _); first | with_reducible ((k_here; (with_reducible show wpAny _ _ (call (Value.builtin _) [Value.ref _]) _ _ _); k_dflt (refine' len_list (News.isList ?n ?m) ?f ?_; (case n => k_asm); (case m => tm_at "mem"); (case f => first | (simp only [List.size_toArray]; omega) | (simp only [List.size_toArray, List.length_cons, List.length_nil]; omega)); k_whole); (try simp only [List.size_toArray, List.length_cons, List.length_nil])))) | walk1 | (dsimp only; walk1) | (leave1; (try dsimp only)) | fail "no step"))
    all_goals first | exact hret _ ((_, pairObj _ j _ _) :: keep) _ _ (by k_asm) (by k_asm) ⟨_, _, _, _, rfl, allLt_mem _ (by walk_at "my_allLt"), by assumption, rfl⟩ | (first | exact hexc _ _ _ _ _ _ (by assumption) (by k_asm) (by k_asm) (by k_asm) (by first | walk_at "my_subs" | (intro p9 hp9; (rename (∀ p ∈ _, p ∈ _) => hs9x); exact hs9x p9 (by simp only [List.mem_cons, hp9, or_true]))) | exact hexcN _ _ _ _ _ _ (by assumption) (by k_asm) (by k_asm) (by k_asm) (by first | walk_at "my_subs" | (intro p9 hp9; (rename (∀ p ∈ _, p ∈ _) => hs9x); exact hs9x p9 (by simp only [List.mem_cons, hp9, or_true]))))))) only [↓boxed]
end
section
abbrev isFun (x : PySem.Str) : Bool := [Str.ofString "SGN", Str.ofString "ABS", Str.ofString "LEN", Str.ofString "STR$", Str.ofString "VAL", Str.ofString "ASC", Str.ofString "CHR$", Str.ofString "LEFT$", Str.ofString "RIGHT$", Str.ofString "MID$", Str.ofString "RND", Str.ofString "INSTR"].any fun y => y == x
theorem fun_no {x : PySem.Str} (hf : isFun x = true) (h : (Str.ofString "SGN" == x || (Str.ofString "ABS" == x || (Str.ofString "LEN" == x || (Str.ofString "STR$" == x || (Str.ofString "VAL" == x || (Str.ofString "ASC" == x || (Str.ofString "CHR$" == x || (Str.ofString "LEFT$" == x || (Str.ofString "RIGHT$" == x || (Str.ofString "MID$" == x || (Str.ofString "RND" == x || Str.ofString "INSTR" == x))))))))))) = false) : False := by
  simp only [isFun, List.any_cons, List.any_nil, Bool.or_false] at hf
  rw [h] at hf
  cases hf
set_option maxHeartbeats 8000000
theorem level_end (w : World) (news) : Tel w 135 [.ref 35] 6 60 news (fun v n => ∃ t, v = .int 0 t ∧ n = news) (fun _ => False) := by
  refine Box.out ?_
  simp (disch :=
    k_dflt ((
    refine keepP ?_
    walk_at "my_go"
    intro lo mean mg mb dp un gd outer A₀ base h₀ L hp0 gn0 dr0 tk0 os0 Q E B F X N T hd0 hu0 hP hret hexcN hexc
    (try dsimp only at F)
    (repeat' (first | (k_unfold; (try dsimp only)) | (k_end; kc_close) | ((with_reducible show wpAny _ _ (isTrue _ _ _) _ _ _); with_reducible ((k_here; (first | with_reducible refine' isEqS (b := true) ?F ?e ?v ?b ?_ ?k ?x ?d | with_reducible refine' isNeS (b := true) ?F ?e ?v ?b ?_ ?k ?x ?d); k_dflt (tm_at "c1"; (case b => decide +kernel); tm_at "c2")))) | walk1 | (dsimp only; walk1) | (leave1; (try dsimp only)) | fail "no step"))
    all_goals first | exact hret _ news _ _ (by k_asm) (by walk_at "my_drop") ⟨_, rfl, rfl⟩))) only [↓boxed]
theorem first_word (w : World) (wd : PySem.Str) (hok : PyData.strOk wd = true) (tk ta st : Addr) (n i n2 : Nat) (vs : List Value) (t t0 t1 t2 : Tok) (dep : Int) (news : List (Addr × Obj)) (h1 : (tk, listObj vs n) ∈ news) (hx : vs[i]? = some (.ref ta)) (hi : i < vs.length) (hl : vs.length < 1000) (ha : (ta, tok2 "word" t1 (.str wd t2) n2) ∈ news) (hf : isFun wd = true) (hdep : dep ≤ 40) (Ret : Value → List (Addr × Obj) → Prop) (Exc : PySem.Str → Prop) (hC : ∀ t t0, Tel w 191 [.ref tk, .int (i : Int) t, .ref st, .int dep t0] 60 600 news Ret Exc)  : Tel w 217 [.ref tk, .int (i : Int) t, .ref st, .int dep t0] 65 650 news Ret Exc := by
  refine Box.out ?_
  simp (disch :=
    k_dflt ((
    refine keepP ?_
    walk_at "my_go"
    intro lo mean mg mb dp un gd outer A₀ base h₀ L hp0 gn0 dr0 tk0 os0 Q E B F X N T hd0 hu0 hP hret hexcN hexc
    (try dsimp only at F)
    (repeat' (first | (k_unfold; (try dsimp only)) | (k_end; kc_close) | ((with_reducible show wpAny _ _ (isTrue _ _ _) _ _ _); with_reducible ((k_here; (first | with_reducible refine' isEqS (b := true) ?F ?e ?v ?b ?_ ?k ?x ?d | with_reducible refine' isNeS (b := true) ?F ?e ?v ?b ?_ ?k ?x ?d); k_dflt (tm_at "c1"; (case b => decide +kernel); tm_at "c2")))) | ((with_reducible show wpAny _ _ (call (Value.ref _) _) _ _ _); first | with_reducible ((k_here; (with_reducible show wpAny _ _ (call (Value.ref 191) [Value.ref _, Value.int _ _, Value.ref _, Value.int _ _]) _ _ _); k_dflt ((rename (∀ t t0, Tel _ 191 _ _ _ _ _ _) => hC9); ktr_call z9 (hC9 _ _)); (((case' kr => intro v9 n9 h9 tk9 F9 N9 hv9; (try dsimp only); (try k_fold)); (case' ke => intro k9 e9 g9 n9 h9 tk9 hk9 F9 U9 R9 hs9; (try dsimp only); (try k_fold)))))) | with_reducible ((first | (k_here; (with_reducible show wpAny _ _ (call (Value.ref 51) [Value.ref _, Value.int _ _]) _ _ _); k_dflt (refine' Tel.useS (token_at_in _ _ _ _ _ _ _ _ ?p1 ?p2 ?p3 ?p4) ?k1 ?k2 ?k3 ?k4 ?k5 ?k6 ?k7 ?k8 ?kr; tm_at "u1"; (case p1 => tm_at "mem"); (case p2 => assumption); (case p3 => omega); (case p4 => omega); skip); (intro h9 tk9 F9 N9)) | (k_here; (with_reducible show wpAny _ _ (call (Value.ref 51) [Value.ref _, Value.int _ _]) _ _ _); k_dflt (ktr_call z9 (token_at_in _ _ _ _ _ _ _ _ ?p1 ?p2 ?p3 ?p4); (case p1 => tm_at "mem"); (case p2 => assumption); (case p3 => omega); (case p4 => omega); skip); walk_at "my_ret")))) | ((with_reducible show wpAny _ _ (compareOp CmpOp.In _ _) _ _ _); first | with_reducible ((k_here; (with_reducible show wpAny _ _ (compareOp CmpOp.In _ (Value.ref _)) _ _ _); k_dflt (refine SeqAt.in_tuple_reads (by walk_at "my_read") (by walk_at "my_read") (by (first | rfl | decide +kernel | exact lay_s (by assumption) | exact shaped_ok (by (first | rfl | decide +kernel | exact shaped_ss (by (first | assumption | decide +kernel)) (by (first | assumption | decide +kernel)) | exact shaped_si (by (first | assumption | decide +kernel)))))) (by (first | rfl | decide +kernel | exact lay_s (by assumption) | exact shaped_ok (by (first | rfl | decide +kernel | exact shaped_ss (by (first | assumption | decide +kernel)) (by (first | assumption | decide +kernel)) | exact shaped_si (by (first | assumption | decide +kernel)))))) (by (simp only [PyData.depth, PyData.depthAll]; (((have hcL9 := cLine_is); (try simp only [units_in1, units_deeper, Around.mark_units, units_caller]); (try dsimp only [ktrTop]); first | omega | decide)))) ?_); (((try simp only [PyData.eqv, PyData.eqvAll, List.any_cons, List.any_nil, eq_self, beq_self_eq_true, decide_true, Bool.and_true, Bool.true_and, Bool.and_false, Bool.false_and, Bool.or_false, Bool.false_or, Bool.not_true, Bool.not_false, Bool.true_or, Bool.or_true])))))) | walk1 | (dsimp only; walk1) | (leave1; (try dsimp only)) | fail "no step"))
    all_goals first | exact (fun_no hf (by assumption)).elim | exact hret _ _ _ _ (by k_asm) (by k_asm) (by assumption) | (first | exact hexc _ _ _ _ _ _ (by assumption) (by k_asm) (by k_asm) (by k_asm) (by first | walk_at "my_subs" | (intro p9 hp9; (rename (∀ p ∈ _, p ∈ _) => hs9x); exact hs9x p9 (by simp only [List.mem_cons, hp9, or_true]))) | exact hexcN _ _ _ _ _ _ (by assumption) (by k_asm) (by k_asm) (by k_asm) (by first | walk_at "my_subs" | (intro p9 hp9; (rename (∀ p ∈ _, p ∈ _) => hs9x); exact hs9x p9 (by simp only [List.mem_cons, hp9, or_true]))))))) only [↓boxed]
local macro_rules | `(tactic| walk_at "my_bothR") => `(tactic| ((case' kr => intro v9 n9 h9 tk9 F9 N9 hv9; (unfold RetPair at hv9); obtain ⟨a9, t9, k9, w9, e1, l9, p9, e2⟩ := hv9; subst e1; replace e2 := e2.symm; subst e2; (try k_lt l9); (try dsimp only); (try k_fold)); (case' ke => intro k9 e9 g9 n9 h9 tk9 hk9 F9 U9 R9 hs9; (try dsimp only); (try k_fold))))
theorem bound_end (w : World) (tk st : Addr) (n i j : Nat) (vs : List Value) (t t0 t5 : Tok) (dep : Int) (P : Value → Prop) (Exc : PySem.Str → Prop) (news keep : List (Addr × Obj)) (h1 : (tk, listObj vs n) ∈ keep) (hl : vs.length < 1000) (hj : vs.length ≤ j) (hF : Tel w 217 [.ref tk, .int (i : Int) t, .ref st, .int dep t0] 65 650 news (RetPair P j keep) Exc)  : Tel w 224 [.ref tk, .int (i : Int) t, .int 1 t5, .ref st, .int dep t0] 70 700 news (RetPair P j keep) Exc := by
  refine Box.out ?_
  simp (disch :=
    k_dflt ((
    refine keepP ?_
    walk_at "my_go"
    intro lo mean mg mb dp un gd outer A₀ base h₀ L hp0 gn0 dr0 tk0 os0 Q E B F X N T hd0 hu0 hP hret hexcN hexc
    (try dsimp only at F)
    (repeat' (first | (k_unfold; (try dsimp only)) | (k_end; kc_close) | ((with_reducible show wpAny _ _ (isTrue _ _ _) _ _ _); with_reducible ((k_here; first | (with_reducible refine' cmpNI ?F ?e ?v ?_ ?m ?k ?x ?d; k_dflt (tm_at "c1"; (case m => exact rfl); tm_at "c2")) | (with_reducible refine' cmpNN ?F ?e ?v ?v' ?_ ?m ?k ?x ?d ?x' ?d'; k_dflt (tm_at "c1"; tm_at "c3"; (case m => exact rfl); tm_at "c2"))))) | ((with_reducible show wpAny _ _ (call (Value.ref _) _) _ _ _); first | with_reducible ((k_here; (with_reducible show wpAny _ _ (call (Value.ref 217) [Value.ref _, Value.int _ _, Value.ref _, Value.int _ _]) _ _ _); k_dflt (ktr_call z9 ((show Tel _ _ _ _ _ _ _ _ from by assumption)); skip); walk_at "my_bothR")) | with_reducible ((k_here; (with_reducible show wpAny _ _ (call (Value.ref 135) [Value.ref _]) _ _ _); k_dflt (ktr_call z9 (level_end _ _); skip); (((case ke => exact fun _ _ _ _ _ _ hk9 => (show False from hk9).elim); intro v9 n9 h9 tk9 F9 N9 hv9; obtain ⟨t9, e1, e2⟩ := hv9; subst e1; replace e2 := e2.symm; subst e2; (try dsimp only); (try k_fold))))) | with_reducible ((first | (k_here; (with_reducible show wpAny _ _ (call (Value.ref 51) [Value.ref _, Value.int _ _]) _ _ _); k_dflt (refine' Tel.useS (token_at_out _ _ _ _ _ _ _ ?p1 ?p2 ?p3) ?k1 ?k2 ?k3 ?k4 ?k5 ?k6 ?k7 ?k8 ?kr; tm_at "u1"; (case p1 => tm_at "mem"); (case p2 => omega); (case p3 => omega); skip); (intro h9 tk9 F9 N9)) | (k_here; (with_reducible show wpAny _ _ (call (Value.ref 51) [Value.ref _, Value.int _ _]) _ _ _); k_dflt (ktr_call z9 (token_at_out _ _ _ _ _ _ _ ?p1 ?p2 ?p3); (case p1 => tm_at "mem"); (case p2 => omega); (case p3 => omega); skip); walk_at "my_ret")))) | walk1 | (dsimp only; walk1) | (leave1; (try dsimp only)) | fail "no step"))
    all_goals first | exact hret _ ((_, pairObj _ j _ _) :: keep) _ _ (by k_asm) (dropx (by k_asm) (by walk_at "my_subs")) ⟨_, _, _, _, rfl, (by first | k_asm | exact below2 (by assumption) | exact allLt_mem _ (by walk_at "my_allLt")), by assumption, rfl⟩ | (first | exact hexc _ _ _ _ _ _ (by assumption) (by k_asm) (by k_asm) (by k_asm) (by first | walk_at "my_subs" | (intro p9 hp9; (rename (∀ p ∈ _, p ∈ _) => hs9x); exact hs9x p9 (by simp only [List.mem_cons, hp9, or_true]))) | exact hexcN _ _ _ _ _ _ (by assumption) (by k_asm) (by k_asm) (by k_asm) (by first | walk_at "my_subs" | (intro p9 hp9; (rename (∀ p ∈ _, p ∈ _) => hs9x); exact hs9x p9 (by simp only [List.mem_cons, hp9, or_true]))))))) only [↓boxed]
theorem value_of_ (w : World) (tk st : Addr) (i : Nat) (t : Tok) (news : List (Addr × Obj)) (Ret : Value → List (Addr × Obj) → Prop) (Exc : PySem.Str → Prop) (hB : ∀ t t5 t0, Tel w 224 [.ref tk, .int (i : Int) t, .int 1 t5, .ref st, .int 0 t0] 70 700 news Ret Exc)  : Tel w 231 [.ref tk, .int (i : Int) t, .ref st] 75 750 news Ret Exc := by
  refine Box.out ?_
  simp (disch :=
    k_dflt ((
    refine keepP ?_
    walk_at "my_go"
    intro lo mean mg mb dp un gd outer A₀ base h₀ L hp0 gn0 dr0 tk0 os0 Q E B F X N T hd0 hu0 hP hret hexcN hexc
    (try dsimp only at F)
    (repeat' (first | (k_unfold; (try dsimp only)) | (k_end; kc_close) | ((with_reducible show wpAny _ _ (call (Value.ref _) _) _ _ _); first | with_reducible ((k_here; (with_reducible show wpAny _ _ (call (Value.ref 224) [Value.ref _, Value.int _ _, Value.int _ _, Value.ref _, Value.int _ _]) _ _ _); k_dflt ((rename (∀ t t5 t0, Tel _ 224 _ _ _ _ _ _) => hC9); ktr_call z9 (hC9 _ _ _)); (((case' kr => intro v9 n9 h9 tk9 F9 N9 hv9; (try dsimp only); (try k_fold)); (case' ke => intro k9 e9 g9 n9 h9 tk9 hk9 F9 U9 R9 hs9; (try dsimp only); (try k_fold))))))) | walk1 | (dsimp only; walk1) | (leave1; (try dsimp only)) | fail "no step"))
    all_goals first | exact (fun_no hf (by assumption)).elim | exact hret _ _ _ _ (by k_asm) (by k_asm) (by assumption) | (first | exact hexc _ _ _ _ _ _ (by assumption) (by k_asm) (by k_asm) (by k_asm) (by first | walk_at "my_subs" | (intro p9 hp9; (rename (∀ p ∈ _, p ∈ _) => hs9x); exact hs9x p9 (by simp only [List.mem_cons, hp9, or_true]))) | exact hexcN _ _ _ _ _ _ (by assumption) (by k_asm) (by k_asm) (by k_asm) (by first | walk_at "my_subs" | (intro p9 hp9; (rename (∀ p ∈ _, p ∈ _) => hs9x); exact hs9x p9 (by simp only [List.mem_cons, hp9, or_true]))))))) only [↓boxed]
end
section

theorem span_of {ts rest : List Tk} {i : Nat} {d : Dv} {x : Tk} (h : ts.drop i = toksOf d ++ x :: rest) (ok : d.Ok) (hx : x = mkT "sign" (.s ",") ∨ x = mkT "sign" (.s ")")) :
    ArgSpan ts i d (i + (toksOf d).length) ∧ ts[i + (toksOf d).length]? = some x ∧ ts.drop (i + (toksOf d).length + 1) = rest := by
  have at' : ∀ k, ts[i + k]? = (toksOf d ++ x :: rest)[k]? := fun k => by rw [← h, List.getElem?_drop]
  have ex : ts[i + (toksOf d).length]? = some x := by rw [at', List.getElem?_append_right (Nat.le_refl _)]; simp
  refine ⟨⟨rfl, ok, fun k hk => by rw [at', List.getElem?_append_left hk], ?_⟩, ex, ?_⟩
  · rcases hx with rfl | rfl
    · exact .inl ex
    · exact .inr ex
  · have : ts.drop (i + (toksOf d).length + 1) = (ts.drop i).drop ((toksOf d).length + 1) := by rw [List.drop_drop]; congr 1
    rw [this, h, List.drop_append]
    simp
theorem end_of {ts : List Tk} {j : Nat} {x : Tk} (h1 : ts[j]? = some x) (h2 : ts.drop (j + 1) = []) : j + 1 = ts.length := by
  have a := (List.getElem?_eq_some_iff.mp h1).1
  have b := List.drop_eq_nil_iff.mp h2
  omega
noncomputable def Seps (ts : List Tk) : List Dv → Nat → Prop
  | [], j => ts[j]? = some (mkT "sign" (.s ")")) ∧ j + 1 = ts.length
  | d :: ds, j => ts[j]? = some (mkT "sign" (.s ",")) ∧ ∃ j', ArgSpan ts (j + 1) d j' ∧ Seps ts ds j'
theorem seps_of {ts : List Tk} : ∀ (ds : List Dv) (i : Nat) (d : Dv), ts.drop i = argToks (d :: ds) → (∀ d' ∈ d :: ds, d'.Ok) → ∃ j, ArgSpan ts i d j ∧ Seps ts ds j
  | [], i, d, h, ok => by
    obtain ⟨s, x, r⟩ := span_of (rest := []) h (ok d (.head _)) (.inr rfl)
    exact ⟨_, s, x, end_of x r⟩
  | d2 :: ds, i, d, h, ok => by
    obtain ⟨s, x, r⟩ := span_of (rest := argToks (d2 :: ds)) h (ok d (.head _)) (.inl rfl)
    obtain ⟨j, s2, q⟩ := seps_of ds _ d2 r (fun d' h => ok d' (.tail _ h))
    exact ⟨_, s, x, j, s2, q⟩
noncomputable def Vals (ds : List Dv) (ws : List Value) : Prop := ws.length = ds.length ∧ ∀ (i : Nat) (d : Dv), ds[i]? = some d → ∃ w, ws[i]? = some w ∧ IsD d w
theorem vals_nil : Vals [] [] := ⟨rfl, isd_nil⟩
theorem vals_cons {d : Dv} {w : Value} {ds : List Dv} {ws : List Value} (h : IsD d w) (r : Vals ds ws) : Vals (d :: ds) (w :: ws) := ⟨congrArg (· + 1) r.1, isd_cons h r.2⟩
set_option maxHeartbeats 8000000
theorem app_nil {h₀ h : Heap} {L l : Addr} {x : Addr × Obj} {ws : List Value} {k : Nat} {news : List (Addr × Obj)} (N : News h₀ L h (x :: (l, listObj ws k) :: news)) : News h₀ L h ((l, listObj (ws ++ []) k) :: news) := by
  rw [List.append_nil]
  exact fun p hp => N p (.tail _ hp)
theorem app_one {h₀ h : Heap} {L l : Addr} {x y : Addr × Obj} {ws : List Value} {v : Value} {k : Nat} {news : List (Addr × Obj)} (N : News h₀ L h (x :: y :: (l, W.listOf (ws.toArray.push v) k) :: news)) : News h₀ L h ((l, listObj (ws ++ [v]) k) :: news) := by
  rw [List.push_toArray] at N
  exact fun p hp => N p (.tail _ (.tail _ hp))
section
theorem vloop {w : World} {sco : Scope} {test : Expr} {body : List Stmt} {lo : List PySem.Str} {mean : ExcName → Option Value} {mg mb : PySem.Str → Option Value} {dp un : Nat} {gd : Option (List Code)} {outer : List Env} {A₀ : Around} {base h₀ : Heap} {L : Addr} {ccd : Value} {Q : Flow → Shared → Prop} {E : Value → Shared → Prop} {tk st l : Addr} {nn : Nat} {vs : List Value} {ts : List Tk} {tt ts0 t0 tl : Tok} {dep : Int} {news : List (Addr × Obj)}
   (hsco : sco = scopeAt w.params 198) (ht : test = tstAt (bodyAt w.params 198) 3) (hb : body = bdyAt (bodyAt w.params 198) 3)
   (B : Below A₀ base outer h₀) (X : (hd.heap_1 w.params).In h₀) (T : Top viewQ lo mean mg mb h₀) (hd0 : dp + 50 < 451) (hu0 : un + 500 < 903)
   (hP : PassesOwn (model PySem.Challenge.rw_pq1455_02.row.prog w) (ktrTop dp un gd (Str.ofString "values_at") sco L 198 ccd [] outer) (envOf (Str.ofString "values_at") sco L 198 ccd) E)
   (h1 : (tk, listObj vs nn) ∈ news) (hl : vs.length < 1000) (hT : TokL news vs ts) (hle : vs.length = ts.length) (hdep : dep ≤ 37) (hlt : ∀ p ∈ news, p.1 < l) :
   ∀ (ds : List Dv) (i : Nat) (ti : Tok) (ws : List Value) (k : Nat) (hp0 : Heap) (gn0 : Array GenState) (dr0 : Drawn) (tk0 : Nat) (os0 : OsState) (m : PySem.Str → Option Value), Seps ts ds i → ws.length + ds.length ≤ 9 → Fr h₀ L hp0 m → News h₀ L hp0 ((l, listObj ws k) :: news) → m (Str.ofString "tokens") = some (.ref tk) → m (Str.ofString "at") = some (.int i ti) → m (Str.ofString "store") = some (.ref st) → m (Str.ofString "depth") = some (.int dep t0) → m (Str.ofString "found") = some (.ref l) →
    (∀ i' ti' us k' h' tk' {m' : PySem.Str → Option Value}, Vals ds us → Seps ts [] i' → Fr h₀ L h' m' → News h₀ L h' ((l, listObj (ws ++ us) k') :: news) → m' (Str.ofString "tokens") = some (.ref tk) → m' (Str.ofString "at") = some (.int (i' : Nat) ti') → m' (Str.ofString "found") = some (.ref l) → Q .next ⟨h', gn0, dr0, tk', os0⟩) →
    WhlRest PySem.Challenge.rw_pq1455_02.row.prog w (ktrTop dp un gd (Str.ofString "values_at") sco L 198 ccd [] outer) E (envOf (Str.ofString "values_at") sco L 198 ccd) test body [] Q 0 ⟨hp0, gn0, dr0, tk0, os0⟩ := by
  refine Box.out ?_
  simp (disch :=
    k_dflt ((
    refine keepP ?_
    subst hsco ht hb
    (rename Frag.In _ _ => X9; revert X9; k_fill; intro X9)
    conv in (occs := *) tstAt _ _ => all_goals whnf
    conv in (occs := *) bdyAt _ _ => all_goals whnf
    conv in (occs := *) scopeAt _ _ => all_goals whnf
    have hne : ∀ p ∈ news, p.1 ≠ l := fun p hp => Nat.ne_of_lt (hlt p hp)
    replace hlt := allLt_of hlt
    intro ds
    induction ds with
    | nil =>
      intro i ti ws k hp0 gn0 dr0 tk0 os0 m hs _ F N m1 m2 m3 m4 m5 hQ
      obtain ⟨c0, ta0, tb0, m0, hx0, hc0⟩ := hT.str hs.1
      have hi0 := lt_of_get hx0
      show WhlRest _ _ _ _ _ _ _ _ _ 1 _
      (repeat' (first | (k_unfold; (try dsimp only)) | (k_end; kc_close) | ((with_reducible show WhlPost _ _ _ _ _ _ _ _ _ _ _ _); with_reducible (((dsimp only [WhlPost]); refine held ?_))) | ((with_reducible show wpAny _ _ (binaryOp Operator.Add _ _) _ _ _); with_reducible (with_reducible refine add_nat1 ?_)) | ((with_reducible show wpAny _ _ (call (Value.ref _) _) _ _ _); first | with_reducible ((first | (k_here; (with_reducible show wpAny _ _ (call (Value.ref 51) [Value.ref _, Value.int _ _]) _ _ _); k_dflt (refine' Tel.useS (token_at_in _ _ _ _ _ _ _ _ ?p1 ?p2 ?p3 ?p4) ?k1 ?k2 ?k3 ?k4 ?k5 ?k6 ?k7 ?k8 ?kr; tm_at "u1"; (case p1 => tm_at "mem"); (case p2 => assumption); (case p3 => omega); (case p4 => omega); skip); (intro h9 tk9 F9 N9)) | (k_here; (with_reducible show wpAny _ _ (call (Value.ref 51) [Value.ref _, Value.int _ _]) _ _ _); k_dflt (ktr_call z9 (token_at_in _ _ _ _ _ _ _ _ ?p1 ?p2 ?p3 ?p4); (case p1 => tm_at "mem"); (case p2 => assumption); (case p3 => omega); (case p4 => omega); skip); walk_at "my_ret")))) | ((with_reducible show wpAny _ _ (compareOp CmpOp.Eq _ _) _ _ _); first | with_reducible ((k_here; (with_reducible show wpAny _ _ (compareOp CmpOp.Eq (Value.ref _) (Value.ref _)) _ _ _); k_dflt (refine eq_dataH (by walk_at "my_read") (by walk_at "my_read") (by (first | rfl | decide +kernel | exact shaped_ss (by (first | assumption | decide +kernel)) (by (first | assumption | decide +kernel)) | exact shaped_si (by (first | assumption | decide +kernel)))) (by (first | rfl | decide +kernel | exact shaped_ss (by (first | assumption | decide +kernel)) (by (first | assumption | decide +kernel)) | exact shaped_si (by (first | assumption | decide +kernel)))) (by (((have hcL9 := cLine_is); (try simp only [units_in1, units_deeper, Around.mark_units, units_caller]); (try dsimp only [ktrTop]); first | omega | decide))) ?_); (((try simp only [PyData.eqv, PyData.eqvAll, List.any_cons, List.any_nil, eq_self, beq_self_eq_true, decide_true, Bool.and_true, Bool.true_and, Bool.and_false, Bool.false_and, Bool.or_false, Bool.false_or, Bool.not_true, Bool.not_false, Bool.true_or, Bool.or_true])))))) | walk1 | (dsimp only; walk1) | (leave1; (try dsimp only)) | fail "no step"))
      all_goals exact hQ _ _ _ _ _ _ vals_nil hs (by k_asm) (app_nil (by k_asm)) m1 m2 m5
    | cons d ds ih =>
      intro i ti ws k hp0 gn0 dr0 tk0 os0 m hs hw F N m1 m2 m3 m4 m5 hQ
      obtain ⟨he, j, sp, hs⟩ := hs
      obtain ⟨c0, ta0, tb0, m0, hx0, hc0⟩ := hT.str he
      have hi0 := lt_of_get hx0
      have hz : ws.toArray.size ≤ sizeLine := by simp [PySem.sizeLine_eq] at hw ⊢; omega
      show WhlRest _ _ _ _ _ _ _ _ _ 1 _
      (repeat' (first | (k_unfold; (try dsimp only)) | (k_end; kc_close) | ((with_reducible show WhlPost _ _ _ _ _ _ _ _ _ _ _ _); with_reducible (((dsimp only [WhlPost]); refine held ?_))) | ((with_reducible show wpAny _ _ (binaryOp Operator.Add _ _) _ _ _); with_reducible (with_reducible refine add_nat1 ?_)) | ((with_reducible show wpAny _ _ (call (Value.ref _) _) _ _ _); first | with_reducible ((first | (k_here; (with_reducible show wpAny _ _ (call (Value.ref 51) [Value.ref _, Value.int _ _]) _ _ _); k_dflt (refine' Tel.useS (token_at_in _ _ _ _ _ _ _ _ ?p1 ?p2 ?p3 ?p4) ?k1 ?k2 ?k3 ?k4 ?k5 ?k6 ?k7 ?k8 ?kr; tm_at "u1"; (case p1 => tm_at "mem"); (case p2 => assumption); (case p3 => omega); (case p4 => omega); skip); (intro h9 tk9 F9 N9)) | (k_here; (with_reducible show wpAny _ _ (call (Value.ref 51) [Value.ref _, Value.int _ _]) _ _ _); k_dflt (ktr_call z9 (token_at_in _ _ _ _ _ _ _ _ ?p1 ?p2 ?p3 ?p4); (case p1 => tm_at "mem"); (case p2 => assumption); (case p3 => omega); (case p4 => omega); skip); walk_at "my_ret")))) | ((with_reducible show wpAny _ _ (compareOp CmpOp.Eq _ _) _ _ _); first | with_reducible ((k_here; (with_reducible show wpAny _ _ (compareOp CmpOp.Eq (Value.ref _) (Value.ref _)) _ _ _); k_dflt (refine eq_dataH (by walk_at "my_read") (by walk_at "my_read") (by (first | rfl | decide +kernel | exact shaped_ss (by (first | assumption | decide +kernel)) (by (first | assumption | decide +kernel)) | exact shaped_si (by (first | assumption | decide +kernel)))) (by (first | rfl | decide +kernel | exact shaped_ss (by (first | assumption | decide +kernel)) (by (first | assumption | decide +kernel)) | exact shaped_si (by (first | assumption | decide +kernel)))) (by (((have hcL9 := cLine_is); (try simp only [units_in1, units_deeper, Around.mark_units, units_caller]); (try dsimp only [ktrTop]); first | omega | decide))) ?_); (((try simp only [PyData.eqv, PyData.eqvAll, List.any_cons, List.any_nil, eq_self, beq_self_eq_true, decide_true, Bool.and_true, Bool.true_and, Bool.and_false, Bool.false_and, Bool.or_false, Bool.false_or, Bool.not_true, Bool.not_false, Bool.true_or, Bool.or_true])))))) | ((with_reducible show wpAny _ _ (call (Value.ref 224) [Value.ref _, Value.int _ _, Value.int _ _, Value.ref _, Value.int _ _]) _ _ _); k_dflt (ktr_call z9 (arg_bound _ _ _ _ _ _ _ _ _ _ _ _ _ _ _ ?p1 ?p2 ?p3 ?p4 ?p5 ?p6); (case p1 => tm_at "mem"); (case p2 => omega); (case p3 => (refine TokL.mono (by assumption) ?_; walk_at "my_subs")); (case p4 => assumption); (case p5 => omega); (case p6 => omega); skip); (first | (((case ke => exact fun _ _ _ _ _ _ hk9 => (show False from hk9).elim); intro v9 n9 h9 tk9 F9 N9 hv9; obtain ⟨a9, t9, k9, w9, e1, l9, p9, e2⟩ := hv9; subst e1; replace e2 := e2.symm; subst e2; (try k_lt l9); (try dsimp only); (try k_fold))) | (((case ke => exact fun _ _ _ _ _ _ hk9 => (show False from hk9).elim); intro v9 n9 h9 tk9 F9 N9 hv9; obtain ⟨a9, t9, k9, w9, e1, l9, p9, e2⟩ := hv9; subst e1; replace e2 := e2.symm; subst e2; (try dsimp only); (try k_fold))))) | ((with_reducible show wpAny _ _ (call (Value.builtin "list.append") _) _ _ _); k_dflt (refine append_K (by k_asm) (by k_asm) (.tail (by k_ne) (.tail (by k_ne) (.head hne))) (fun h' F' N' => ?_) hz)) | walk1 | (dsimp only; walk1) | (leave1; (try dsimp only)) | fail "no step"))
      unfold Held
      refine' ih _ _ (ws ++ [_]) _ _ _ _ _ _ _ hs ?h1 ?h2 ?h3 ?h4 ?h5 ?h6 ?h7 ?h8 (fun i' ti' us k' h' tk' m' V S F N a b c => hQ i' ti' (_ :: us) k' h' tk' (vals_cons (by assumption) V) S F (by rw [List.append_assoc] at N; exact N) a b c)
      case h2 => k_asm
      case h3 => exact app_one (by k_asm)
      case h4 => ((try dsimp only); tm_at "lk")
      case h5 => ((try dsimp only); tm_at "lk")
      case h6 => ((try dsimp only); tm_at "lk")
      case h7 => ((try dsimp only); tm_at "lk")
      case h8 => ((try dsimp only); tm_at "lk")
      case h1 => simp at hw ⊢; omega))) only [↓boxed]
end
theorem skip1 {h₀ h : Heap} {L : Addr} {x y : Addr × Obj} {news : List (Addr × Obj)} (N : News h₀ L h (x :: y :: news)) : News h₀ L h (x :: news) := fun p hp => N p (by
  rcases List.mem_cons.mp hp with e | hp
  · exact e ▸ .head _
  · exact .tail _ (.tail _ hp))
theorem vals_out {h₀ h : Heap} {L a l : Addr} {i j k k2 : Nat} {t : Tok} {ws : List Value} {news : List (Addr × Obj)} (e : i + 1 = j) (N : News h₀ L h ((a, pairObj (.ref l) (i + 1) t k) :: (l, listObj ws k2) :: news)) : News h₀ L h ((a, pairObj (.ref l) j t k) :: (l, listObj ws k2) :: news) := e ▸ N
section
theorem values_go (w : World) (tk st : Addr) (nn i j : Nat) (vs : List Value) (ts : List Tk) (d : Dv) (ds : List Dv) (t t0 : Tok) (dep : Int) (news : List (Addr × Obj)) (h1 : (tk, listObj vs nn) ∈ news) (hl : vs.length < 1000) (hT : TokL news vs ts) (hle : vs.length = ts.length) (hdep : dep ≤ 37)
    (e0 : ts[i]? = some (mkT "sign" (.s "("))) (s1 : ArgSpan ts (i + 1) d j) (sq : Seps ts ds j) (hn4 : ds.length ≤ 4) :
    Tel w 198 [.ref tk, .int (i : Int) t, .ref st, .int dep t0] 50 500 news (RetVals (d :: ds) ts.length news) (fun _ => False) := by
  refine Box.out ?_
  simp (disch :=
    k_dflt ((
    refine keepP ?_
    have hi0 : i < vs.length := hle ▸ lt_of_get e0
    obtain ⟨c0, ta0, tb0, m0, hx0, hc0⟩ := hT.str e0
    walk_at "my_go"
    intro lo mean mg mb dp un gd outer A₀ base h₀ L hp0 gn0 dr0 tk0 os0 Q E B F X N T hd0 hu0 hP hret hexcN hexc
    (try dsimp only at F)
    (repeat' (first | (k_unfold; (try dsimp only)) | (k_end; kc_close) | ((with_reducible show wpAny _ _ (exec (Stmt.While _ _ _ _) _) _ _ _); with_reducible ((k_here; (with_reducible show wpAny _ _ (exec (Stmt.While _ _ _ _) _) _ _ _); refine held ?_))) | ((with_reducible show wpAny _ _ (call (Value.ref _) _) _ _ _); first | with_reducible ((k_here; (with_reducible show wpAny _ _ (call (Value.ref 58) [Value.ref _, Value.int _ _, Value.str _ _]) _ _ _); k_dflt (ktr_call z9 (expect_ok _ _ _ _ _ _ _ _ _ _ _ _ ?p1 _ ?p2 ?p3 ?p4 ?p5 ?p6); (case p1 => (first | assumption | decide +kernel)); (case p2 => tm_at "mem"); (case p3 => assumption); (case p4 => omega); (case p5 => omega); (case p6 => tm_at "mem"); skip); (((case ke => exact fun _ _ _ _ _ _ hk9 => (show False from hk9).elim); intro v9 n9 h9 tk9 F9 N9 hv9; obtain ⟨t9, e1, e2⟩ := hv9; subst e1; replace e2 := e2.symm; subst e2; (try dsimp only); (try k_fold)))))) | ((with_reducible show wpAny _ _ (call (Value.ref 224) [Value.ref _, Value.int _ _, Value.int _ _, Value.ref _, Value.int _ _]) _ _ _); k_dflt (ktr_call z9 (arg_bound _ _ _ _ _ _ _ _ _ _ _ _ _ _ _ ?p1 ?p2 ?p3 ?p4 ?p5 ?p6); (case p1 => tm_at "mem"); (case p2 => omega); (case p3 => (refine TokL.mono (by assumption) ?_; walk_at "my_subs")); (case p4 => assumption); (case p5 => omega); (case p6 => omega); skip); (first | (((case ke => exact fun _ _ _ _ _ _ hk9 => (show False from hk9).elim); intro v9 n9 h9 tk9 F9 N9 hv9; obtain ⟨a9, t9, k9, w9, e1, l9, p9, e2⟩ := hv9; subst e1; replace e2 := e2.symm; subst e2; (try k_lt l9); (try dsimp only); (try k_fold))) | (((case ke => exact fun _ _ _ _ _ _ hk9 => (show False from hk9).elim); intro v9 n9 h9 tk9 F9 N9 hv9; obtain ⟨a9, t9, k9, w9, e1, l9, p9, e2⟩ := hv9; subst e1; replace e2 := e2.symm; subst e2; (try dsimp only); (try k_fold))))) | walk1 | (dsimp only; walk1) | (leave1; (try dsimp only)) | fail "no step"))
    unfold Held
    refine whl_start 0 ?_
    refine' vloop (by kernel_rfl) (by kernel_rfl) (by kernel_rfl) B X T ?_ ?_ hP h1 hl hT hle hdep ?hlt _ _ _ _ _ _ _ _ _ _ _ sq ?h1 ?h2 ?h3 ?h4 ?h5 ?h6 ?h7 ?h8 ?hQ
    case h2 => k_asm
    case h3 => exact skip1 (by k_asm)
    case h4 => ((try dsimp only); tm_at "lk")
    case h5 => ((try dsimp only); tm_at "lk")
    case h6 => ((try dsimp only); tm_at "lk")
    case h7 => ((try dsimp only); tm_at "lk")
    case h8 => ((try dsimp only); tm_at "lk")
    case h1 => (simp only [List.length_cons, List.length_nil]; omega)
    case hlt => exact allLt_mem _ (by walk_at "my_allLt")
    case hQ =>
      intro i' ti' us k' h' tk' m' V S F N a b c
      obtain ⟨S1, S2⟩ := S
      obtain ⟨c1, ta1, tb1, m1, hx1, hc1⟩ := hT.str S1
      have hi1 := lt_of_get hx1
      (try dsimp only)
      (repeat' (first | (k_unfold; (try dsimp only)) | (k_end; kc_close) | ((with_reducible show wpAny _ _ (exec (Stmt.While _ _ _ _) _) _ _ _); with_reducible ((k_here; (with_reducible show wpAny _ _ (exec (Stmt.While _ _ _ _) _) _ _ _); refine held ?_))) | ((with_reducible show wpAny _ _ (call (Value.ref _) _) _ _ _); first | with_reducible ((k_here; (with_reducible show wpAny _ _ (call (Value.ref 58) [Value.ref _, Value.int _ _, Value.str _ _]) _ _ _); k_dflt (ktr_call z9 (expect_ok _ _ _ _ _ _ _ _ _ _ _ _ ?p1 _ ?p2 ?p3 ?p4 ?p5 ?p6); (case p1 => (first | assumption | decide +kernel)); (case p2 => tm_at "mem"); (case p3 => assumption); (case p4 => omega); (case p5 => omega); (case p6 => tm_at "mem"); skip); (((case ke => exact fun _ _ _ _ _ _ hk9 => (show False from hk9).elim); intro v9 n9 h9 tk9 F9 N9 hv9; obtain ⟨t9, e1, e2⟩ := hv9; subst e1; replace e2 := e2.symm; subst e2; (try dsimp only); (try k_fold)))))) | walk1 | (dsimp only; walk1) | (leave1; (try dsimp only)) | fail "no step"))
      refine hret (.ref _) ((_, pairObj (.ref _) ts.length _ _) :: (_, listObj (_ :: us) _) :: news) _ _ (by k_asm) (vals_out S2 (by k_asm)) ⟨_, _, _, _, _, _ :: us, rfl, allLt_mem _ (by walk_at "my_allLt"), by (first | assumption | exact And.left (by assumption) | exact And.left (And.right (by assumption)) | exact And.left (And.right (And.right (by assumption))) | exact And.left (And.right (And.right (And.right (by assumption)))) | exact And.left (And.right (And.right (And.right (And.right (by assumption))))) | exact And.left (And.right (And.right (And.right (And.right (And.right (by assumption)))))) | exact And.left (And.right (And.right (And.right (And.right (And.right (And.right (by assumption))))))) | exact And.left (And.right (And.right (And.right (And.right (And.right (And.right (And.right (by assumption)))))))) | exact And.left (And.right (And.right (And.right (And.right (And.right (And.right (And.right (And.right (by assumption))))))))) | exact And.left (And.right (And.right (And.right (And.right (And.right (And.right (And.right (And.right (And.right (by assumption)))))))))) | omega), congrArg (· + 1) V.1, isd_cons (by assumption) V.2, rfl⟩
    all_goals omega))) only [↓boxed]
end
theorem values_all (w : World) (tk st : Addr) (nn i : Nat) (vs : List Value) (ts : List Tk) (ds : List Dv) (t t0 : Tok) (dep : Int) (news : List (Addr × Obj)) (h1 : (tk, listObj vs nn) ∈ news) (hl : vs.length < 1000) (hT : TokL news vs ts) (hle : vs.length = ts.length) (hdep : dep ≤ 37)
    (e0 : ts[i]? = some (mkT "sign" (.s "("))) (hd : ts.drop (i + 1) = argToks ds) (hn : 1 ≤ ds.length) (hn4 : ds.length ≤ 4) (hok : ∀ d ∈ ds, d.Ok) :
    Tel w 198 [.ref tk, .int (i : Int) t, .ref st, .int dep t0] 50 500 news (RetVals ds ts.length news) (fun _ => False) := by
  match ds, hn with
  | d :: ds, _ =>
    obtain ⟨j, s1, sq⟩ := seps_of ds _ d hd hok
    exact values_go w tk st nn i j vs ts d ds t t0 dep news h1 hl hT hle hdep e0 s1 sq (Nat.le_of_succ_le hn4)
  | [], h => exact absurd h (by decide)
theorem Tel.perm {w : World} {f : Addr} {vs : List Value} {d u : Nat} {l1 l2 : List (Addr × Obj)} {Ret : Value → List (Addr × Obj) → Prop} {Exc : PySem.Str → Prop} (C : Tel w f vs d u l1 Ret Exc) (h12 : ∀ p ∈ l1, p ∈ l2) (h21 : ∀ p ∈ l2, p ∈ l1) : Tel w f vs d u l2 Ret Exc := by
  intro lo mean mg mb dp un gd cn cs a0 ccd cl outer A₀ base h₀ L m s Q E B F X N T hk hd0 hu0 hret hexc
  exact C.use B F X (cb_drop N h12) T hk hd0 hu0 hret fun k e g n h' tk' a b c d e' => hexc k e g n h' tk' a b c d fun p hp => e' p (h21 p hp)
theorem Tel.cut {w : World} {f : Addr} {vs : List Value} {d u d' u' : Nat} {news : List (Addr × Obj)} {Ret Ret' : Value → List (Addr × Obj) → Prop} {Exc Exc' : PySem.Str → Prop} (C : Tel w f vs d u news Ret Exc) (h1 : d ≤ d') (h2 : u ≤ u')
    (hr : ∀ v n, Ret v n → ∃ n', (∀ p ∈ n', p ∈ n) ∧ Ret' v n') (he : ∀ k, Exc k → Exc' k) : Tel w f vs d' u' news Ret' Exc' := by
  intro lo mean mg mb dp un gd cn cs a0 ccd cl outer A₀ base h₀ L m s Q E B F X N T hk hd0 hu0 hret hexc
  exact C.use B F X N T hk (by omega) (by omega) (fun v n h' tk' a b c => by
    obtain ⟨n', q, r⟩ := hr v n c
    exact hret v n' h' tk' a (cb_drop b q) r) fun k e g n h' tk' a b c d e' => hexc k e g n h' tk' (he k a) b c d e'
noncomputable def progRes (wd : PySem.Str) (ds : List Dv) : Res :=
  if crP wd (ds.length : Int) = false then .bad "SN" else if isNum wd = true then (match ds with | d :: _ => numRes wd d | [] => .bad "SN") else textRes wd ds
theorem words_ok : ∀ x ∈ WORDS, PyData.strOk x = true ∧ isFun x = true := by decide +kernel
theorem words_num : ∀ x ∈ WORDS, isNum x = true → (x = "SGN" ∨ x = "ABS" ∨ x = "STR$" ∨ x = "CHR$" ∨ x = "RND") ∧ isLR x = false ∧ isMI x = false := by decide +kernel
theorem words_text : ∀ x ∈ WORDS, isNum x = false → (x = "LEN" ∨ x = "VAL" ∨ x = "ASC" ∨ x = "LEFT$" ∨ x = "RIGHT$" ∨ x = "MID$" ∨ x = "INSTR") := by decide +kernel
noncomputable def RetEnd (r : Res) (j : Nat) (keep : List (Addr × Obj)) (v : Value) (n : List (Addr × Obj)) : Prop := ∃ d, r = .ok d ∧ RetPair (IsD d) j keep v n
theorem value_all (w : World) (wd : PySem.Str) (hw : wd ∈ WORDS) (ds : List Dv) (hn : 1 ≤ ds.length) (hn4 : ds.length ≤ 4) (hin : ∀ d ∈ ds, d.In) (tk : Addr) (nn : Nat) (vs : List Value) (t : Tok) (hl : vs.length < 1000)
    (st dx rl vd ad n : Nat) (z1 z2 z3 z4 : Int) (t2 t3 t4 t5 t6 t7 t8 : Tok) (keep : List (Addr × Obj)) (h1 : (tk, listObj vs nn) ∈ keep) (hT : TokL keep vs (lawToks wd ds)) (hle : vs.length = (lawToks wd ds).length)
    (hdx : ∀ p ∈ keep, p.1 ≠ dx) (h10 : ∀ p ∈ keep, p.1 ≠ st) (h11 : rl < dx) (h12 : dx < st) :
    Tel w 231 [.ref tk, .int ((0 : Nat) : Int) t, .ref st] 75 750 (storeL st dx rl vd ad n z1 z2 z3 z4 t2 t3 t4 t5 t6 t7 t8 keep) (RetEnd (progRes wd ds) (lawToks wd ds).length keep) (ExcR (progRes wd ds)) := by
  have sub : ∀ p ∈ keep, p ∈ storeL st dx rl vd ad n z1 z2 z3 z4 t2 t3 t4 t5 t6 t7 t8 keep := fun p hp => .tail _ (.tail _ (.tail _ hp))
  obtain ⟨hok, hfun⟩ := words_ok wd hw
  have hT' := hT.mono sub
  have h1' := sub _ h1
  have hV : ∀ t t0, Tel w 198 [.ref tk, .int ((0 + 1 : Nat) : Int) t, .ref st, .int 0 t0] 50 500 (storeL st dx rl vd ad n z1 z2 z3 z4 t2 t3 t4 t5 t6 t7 t8 keep) (RetVals ds (lawToks wd ds).length (storeL st dx rl vd ad n z1 z2 z3 z4 t2 t3 t4 t5 t6 t7 t8 keep)) (fun _ => False) := fun t t0 =>
    values_all w tk st nn 1 vs (lawToks wd ds) ds t t0 0 _ h1' hl hT' hle (by decide) rfl rfl hn hn4 fun d hd => (hin d hd).ok
  obtain ⟨ta, t1, tb, n2, hx, ha⟩ := hT'.str (i := 0) (k := "word") (x := wd) rfl
  have hi : 0 < vs.length := by rw [hle]; exact Nat.succ_pos _
  have top : ∀ (P : Value → Prop) (Exc : PySem.Str → Prop), (∀ t t0, Tel w 191 [.ref tk, .int ((0 : Nat) : Int) t, .ref st, .int 0 t0] 60 600 (storeL st dx rl vd ad n z1 z2 z3 z4 t2 t3 t4 t5 t6 t7 t8 keep) (RetPair P (lawToks wd ds).length keep) Exc) →
      Tel w 231 [.ref tk, .int ((0 : Nat) : Int) t, .ref st] 75 750 (storeL st dx rl vd ad n z1 z2 z3 z4 t2 t3 t4 t5 t6 t7 t8 keep) (RetPair P (lawToks wd ds).length keep) Exc := fun P Exc hC =>
    value_of_ w tk st 0 t _ _ _ fun ta' tb' tc' => bound_end w tk st nn 0 _ vs ta' tc' tb' 0 P Exc _ keep h1 hl (Nat.le_of_eq hle)
      (first_word w wd hok tk ta st nn 0 n2 vs ta' tc' t1 tb 0 _ h1' hx hi hl ha hfun (by decide) _ _ hC)
  unfold progRes
  by_cases hc : crP wd (ds.length : Int) = false
  · rw [if_pos hc]
    refine (top (fun _ => False) (fun k => k = "SN") fun t t0 => ?_).mono (Nat.le_refl _) (Nat.le_refl _) (fun v n z => by obtain ⟨_, _, _, _, _, _, z, _⟩ := z; exact z.elim) (fun k e => by subst e; rfl)
    exact (call_bad w wd hok tk ta st nn 0 (lawToks wd ds).length n2 vs t t0 t1 tb 0 _ h1' hx hi hl ha ds hn4 hV (fun m e => e ▸ hc)).mono (Nat.le_refl _) (Nat.le_refl _) (fun _ _ z => z.elim) fun _ z => z
  rw [if_neg hc]
  have hc := eq_true_of_ne_false hc
  by_cases hnum : isNum wd = true
  · rw [if_pos hnum]
    obtain ⟨hws, hlr, hmi⟩ := words_num wd hw hnum
    obtain ⟨d, rfl⟩ := one_of hc hlr hmi
    dsimp only
    refine (top (fun v => ∃ r, numRes wd d = .ok r ∧ IsD r v) (ExcR (numRes wd d)) fun t t0 => ?_).mono (Nat.le_refl _) (Nat.le_refl _) (fun v n z => ?_) (fun k e => e)
    · refine call_num w wd hok tk ta st nn 0 (lawToks wd [d]).length n2 vs t t0 t1 tb 0 _ h1' hx hi hl ha d hV hc hc hnum (fun v => ∃ r, numRes wd d = .ok r ∧ IsD r v) (ExcR (numRes wd d)) keep fun a b l o0 o1 o2 t' v' hlt hlb hba hv' => ?_
      have hdx' : ∀ p ∈ ((a, o0) :: (b, o1) :: (l, o2) :: keep : List (Addr × Obj)), p.1 ≠ dx := fun p hp => by
        have hdl : dx < l := hlt (dx, _) (.tail _ (.head _))
        rcases List.mem_cons.mp hp with rfl | hp
        · exact Nat.ne_of_gt (show dx < a by omega)
        rcases List.mem_cons.mp hp with rfl | hp
        · exact Nat.ne_of_gt (show dx < b by omega)
        rcases List.mem_cons.mp hp with rfl | hp
        · exact Nat.ne_of_gt hdl
        exact hdx p hp
      refine ((ofnum_all w wd hws d v' t' st dx rl vd ad n z1 z2 z3 z4 t2 t3 t4 t5 t6 t7 t8 ((a, o0) :: (b, o1) :: (l, o2) :: keep) (hin d (by simp)).ok hv' hdx' h11 h12).perm ?_ ?_).keep (Nat.le_refl _) (Nat.le_refl _) (fun v n z => ?_) fun _ z => z
      · intro p hp
        simp only [storeL, List.mem_cons] at hp ⊢
        rcases hp with h | h | h | h | h | h | h <;> simp only [h, true_or, or_true]
      · intro p hp
        simp only [storeL, List.mem_cons] at hp ⊢
        rcases hp with h | h | h | h | h | h | h <;> simp only [h, true_or, or_true]
      · obtain ⟨d', q, i, e⟩ := z
        subst e
        exact ⟨⟨d', q, i⟩, fun p hp => .tail _ (.tail _ (.tail _ hp))⟩
    · obtain ⟨a, t', k, w', e1, e2, ⟨r, q, i⟩, e3⟩ := z
      exact ⟨r, q, a, t', k, w', e1, e2, i, e3⟩
  · rw [if_neg hnum]
    have hws := words_text wd hw (Bool.eq_false_iff.mpr hnum)
    refine (top (fun v => ∃ r, textRes wd ds = .ok r ∧ IsD r v) (ExcR (textRes wd ds)) fun t t0 => ?_).mono (Nat.le_refl _) (Nat.le_refl _) (fun v n z => ?_) (fun k e => e)
    · refine (call_text w wd hok tk ta st nn 0 (lawToks wd ds).length n2 vs t t0 t1 tb 0 _ h1' hx hi hl ha ds hn4 hV (fun m e => e ▸ hc) (Bool.eq_false_iff.mpr hnum) (fun v => ∃ r, textRes wd ds = .ok r ∧ IsD r v) (ExcR (textRes wd ds)) keep fun big l ws k t' hs hm hA => ?_).cut (Nat.le_refl _) (Nat.le_refl _) (fun v n z => ?_) fun _ z => z
      · exact (oft_all w wd hws ds hc hin ws hA t' l k big hm).mono (Nat.le_refl _) (Nat.le_refl _) (fun v n z => by obtain ⟨d', q, i, e⟩ := z; exact ⟨⟨d', q, i⟩, e⟩) fun _ z => z
      · obtain ⟨a, t', k, w', e1, e2, p', e3⟩ := z
        subst e3
        refine ⟨(a, pairObj w' (lawToks wd ds).length t' k) :: keep, fun p hp => ?_, a, t', k, w', e1, fun p hp => e2 p (sub p hp), p', rfl⟩
        rcases List.mem_cons.mp hp with e | hp
        · exact e ▸ .head _
        · exact .tail _ (sub p hp)
    · obtain ⟨a, t', k, w', e1, e2, ⟨r, q, i⟩, e3⟩ := z
      exact ⟨r, q, a, t', k, w', e1, e2, i, e3⟩
end
section
theorem item_any {prog : Program} {w : World} {A : Around} {E : Value → Shared → Prop} {s : Shared} {value slice : PySem.Expr} {l : Addr} {vs : List Value} {k : Int} {u : Tok} {P : Value → Prop} {Q : Value → Shared → Prop} (hl : s.heap.IsList l vs.toArray)
    (h0 : 0 ≤ k) (h1 : k < (vs.length : Int)) (hf : k < 2 ^ 63) (hall : ∀ v ∈ vs, P v) (h : ∀ v, P v → Q v s)
    (hs : subscripted slice false (.ref l) (.int k u) = operate [.ref l, .int k u] (getItem (.ref l) (.int k u)) := by with_unfolding_all rfl) (hg : ∀ r, letTemporaryGo value (.ref l) r = pure () := by intro _; with_unfolding_all rfl) :
    wpAny (model prog w) A (subscriptTail value slice (.ref l) (.int k u)) Q E s := by
  have hlt : k.toNat < vs.length := by omega
  refine subscriptTail_builtin hl.typeIs slot_list_getitem.lookup (wpAny_getItem_list (x := vs[k.toNat]) hl h0 hf ?_ (h _ (hall _ (List.getElem_mem hlt)))) hs hg
  simp [hlt]
noncomputable def IsAnyI (v : Value) : Prop := ∃ x t, v = .int x t
noncomputable def IsIn (v : Value) : Prop := ∃ d, Dv.In d ∧ IsD d v
noncomputable def IsWord (v : Value) : Prop := ∃ x ∈ WORDS, IsS x v
noncomputable def AllInts (vs : List Value) : Prop := ∀ v ∈ vs, IsAnyI v
abbrev wellO (c : Addr) (k : Int) (t : Tok) (n : Nat) : Obj := listObj [.ref c, .int k t] n
/-- a new list of m things, each a P -/
noncomputable def RetL (P : Value → Prop) (m : Nat) (news : List (Addr × Obj)) (v : Value) (n : List (Addr × Obj)) : Prop := ∃ a vs k, v = .ref a ∧ (∀ p ∈ news, p.1 < a) ∧ vs.length = m ∧ (∀ v ∈ vs, P v) ∧ n = (a, listObj vs k) :: news
theorem all_nil {P : Value → Prop} : ∀ v ∈ ([] : List Value), P v := fun v h => by cases h
theorem all_cons {P : Value → Prop} {x : Value} {l : List Value} (h : P x) (r : ∀ v ∈ l, P v) : ∀ v ∈ x :: l, P v := fun v hv => by
  rcases List.mem_cons.mp hv with rfl | hv
  · exact h
  · exact r v hv
theorem word_in (x : PySem.Str) (t : Tok) (h : WORDS.any (· == x) = true := by decide +kernel) : IsWord (.str x t) := ⟨x, by
  obtain ⟨y, hy, e⟩ := List.any_eq_true.mp h
  exact (eq_of_beq e) ▸ hy, t, rfl⟩
theorem text_in (x : PySem.Str) (t : Tok) (h : TXTS.any (· == x) = true := by decide +kernel) : IsIn (.str x t) := ⟨.s x, by
  obtain ⟨y, hy, e⟩ := List.any_eq_true.mp h
  exact (eq_of_beq e) ▸ hy, t, rfl⟩
theorem num_in (x : Int) (t : Tok) (h : NUMS.any (· == x) = true := by decide +kernel) : IsIn (.int x t) := ⟨.n x, by
  obtain ⟨y, hy, e⟩ := List.any_eq_true.mp h
  exact (eq_of_beq e) ▸ hy, t, rfl⟩
set_option maxHeartbeats 8000000
local macro_rules | `(tactic| walk_at "my_all") => `(tactic| first | exact all_nil | (refine all_cons (by first | exact word_in _ _ | exact text_in _ _ | exact num_in _ _) ?_; walk_at "my_all"))
theorem l_funs (w : World) (news : List (Addr × Obj)) : Tel w 301 [] 3 30 news (RetL IsWord 12 news) (fun _ => False) := by
  refine Box.out ?_
  simp (disch :=
    k_dflt ((
    refine keepP ?_
    walk_at "my_go"
    intro lo mean mg mb dp un gd outer A₀ base h₀ L hp0 gn0 dr0 tk0 os0 Q E B F X N T hd0 hu0 hP hret hexcN hexc
    (try dsimp only at F)
    k_steps
    all_goals exact hret _ _ _ _ (by k_asm) (by k_asm) ⟨_, _, _, rfl, by k_asm, rfl, by (first | exact all_nil | (refine all_cons (by first | exact word_in _ _ | exact text_in _ _ | exact num_in _ _) ?_; (first | exact all_nil | (refine all_cons (by first | exact word_in _ _ | exact text_in _ _ | exact num_in _ _) ?_; (first | exact all_nil | (refine all_cons (by first | exact word_in _ _ | exact text_in _ _ | exact num_in _ _) ?_; (first | exact all_nil | (refine all_cons (by first | exact word_in _ _ | exact text_in _ _ | exact num_in _ _) ?_; (first | exact all_nil | (refine all_cons (by first | exact word_in _ _ | exact text_in _ _ | exact num_in _ _) ?_; (first | exact all_nil | (refine all_cons (by first | exact word_in _ _ | exact text_in _ _ | exact num_in _ _) ?_; (first | exact all_nil | (refine all_cons (by first | exact word_in _ _ | exact text_in _ _ | exact num_in _ _) ?_; (first | exact all_nil | (refine all_cons (by first | exact word_in _ _ | exact text_in _ _ | exact num_in _ _) ?_; (first | exact all_nil | (refine all_cons (by first | exact word_in _ _ | exact text_in _ _ | exact num_in _ _) ?_; (first | exact all_nil | (refine all_cons (by first | exact word_in _ _ | exact text_in _ _ | exact num_in _ _) ?_; (first | exact all_nil | (refine all_cons (by first | exact word_in _ _ | exact text_in _ _ | exact num_in _ _) ?_; (first | exact all_nil | (refine all_cons (by first | exact word_in _ _ | exact text_in _ _ | exact num_in _ _) ?_; (first | exact all_nil | (refine all_cons (by first | exact word_in _ _ | exact text_in _ _ | exact num_in _ _) ?_; walk_at "my_all")))))))))))))))))))))))))), rfl⟩))) only [↓boxed]
theorem l_txts (w : World) (news : List (Addr × Obj)) : Tel w 308 [] 3 30 news (RetL IsIn 9 news) (fun _ => False) := by
  refine Box.out ?_
  simp (disch :=
    k_dflt ((
    refine keepP ?_
    walk_at "my_go"
    intro lo mean mg mb dp un gd outer A₀ base h₀ L hp0 gn0 dr0 tk0 os0 Q E B F X N T hd0 hu0 hP hret hexcN hexc
    (try dsimp only at F)
    k_steps
    all_goals exact hret _ _ _ _ (by k_asm) (by k_asm) ⟨_, _, _, rfl, by k_asm, rfl, by (first | exact all_nil | (refine all_cons (by first | exact word_in _ _ | exact text_in _ _ | exact num_in _ _) ?_; (first | exact all_nil | (refine all_cons (by first | exact word_in _ _ | exact text_in _ _ | exact num_in _ _) ?_; (first | exact all_nil | (refine all_cons (by first | exact word_in _ _ | exact text_in _ _ | exact num_in _ _) ?_; (first | exact all_nil | (refine all_cons (by first | exact word_in _ _ | exact text_in _ _ | exact num_in _ _) ?_; (first | exact all_nil | (refine all_cons (by first | exact word_in _ _ | exact text_in _ _ | exact num_in _ _) ?_; (first | exact all_nil | (refine all_cons (by first | exact word_in _ _ | exact text_in _ _ | exact num_in _ _) ?_; (first | exact all_nil | (refine all_cons (by first | exact word_in _ _ | exact text_in _ _ | exact num_in _ _) ?_; (first | exact all_nil | (refine all_cons (by first | exact word_in _ _ | exact text_in _ _ | exact num_in _ _) ?_; (first | exact all_nil | (refine all_cons (by first | exact word_in _ _ | exact text_in _ _ | exact num_in _ _) ?_; (first | exact all_nil | (refine all_cons (by first | exact word_in _ _ | exact text_in _ _ | exact num_in _ _) ?_; (first | exact all_nil | (refine all_cons (by first | exact word_in _ _ | exact text_in _ _ | exact num_in _ _) ?_; (first | exact all_nil | (refine all_cons (by first | exact word_in _ _ | exact text_in _ _ | exact num_in _ _) ?_; (first | exact all_nil | (refine all_cons (by first | exact word_in _ _ | exact text_in _ _ | exact num_in _ _) ?_; walk_at "my_all")))))))))))))))))))))))))), rfl⟩))) only [↓boxed]
theorem l_nums (w : World) (news : List (Addr × Obj)) : Tel w 315 [] 3 30 news (RetL IsIn 9 news) (fun _ => False) := by
  refine Box.out ?_
  simp (disch :=
    k_dflt ((
    refine keepP ?_
    walk_at "my_go"
    intro lo mean mg mb dp un gd outer A₀ base h₀ L hp0 gn0 dr0 tk0 os0 Q E B F X N T hd0 hu0 hP hret hexcN hexc
    (try dsimp only at F)
    k_steps
    all_goals exact hret _ _ _ _ (by k_asm) (by k_asm) ⟨_, _, _, rfl, by k_asm, rfl, by (first | exact all_nil | (refine all_cons (by first | exact word_in _ _ | exact text_in _ _ | exact num_in _ _) ?_; (first | exact all_nil | (refine all_cons (by first | exact word_in _ _ | exact text_in _ _ | exact num_in _ _) ?_; (first | exact all_nil | (refine all_cons (by first | exact word_in _ _ | exact text_in _ _ | exact num_in _ _) ?_; (first | exact all_nil | (refine all_cons (by first | exact word_in _ _ | exact text_in _ _ | exact num_in _ _) ?_; (first | exact all_nil | (refine all_cons (by first | exact word_in _ _ | exact text_in _ _ | exact num_in _ _) ?_; (first | exact all_nil | (refine all_cons (by first | exact word_in _ _ | exact text_in _ _ | exact num_in _ _) ?_; (first | exact all_nil | (refine all_cons (by first | exact word_in _ _ | exact text_in _ _ | exact num_in _ _) ?_; (first | exact all_nil | (refine all_cons (by first | exact word_in _ _ | exact text_in _ _ | exact num_in _ _) ?_; (first | exact all_nil | (refine all_cons (by first | exact word_in _ _ | exact text_in _ _ | exact num_in _ _) ?_; (first | exact all_nil | (refine all_cons (by first | exact word_in _ _ | exact text_in _ _ | exact num_in _ _) ?_; (first | exact all_nil | (refine all_cons (by first | exact word_in _ _ | exact text_in _ _ | exact num_in _ _) ?_; (first | exact all_nil | (refine all_cons (by first | exact word_in _ _ | exact text_in _ _ | exact num_in _ _) ?_; (first | exact all_nil | (refine all_cons (by first | exact word_in _ _ | exact text_in _ _ | exact num_in _ _) ?_; walk_at "my_all")))))))))))))))))))))))))), rfl⟩))) only [↓boxed]
end
section
theorem isl {h₀ h : Heap} {L l : Addr} {news : List (Addr × Obj)} {vs : List Value} {n : Nat} (N : News h₀ L h news) (hm : (l, listObj vs n) ∈ news) : h.IsList l vs.toArray := ⟨_, N.get hm, rfl, _, rfl⟩
/-- the well's draw: a number below m; the well stands one further -/
noncomputable def RetDip (m : Int) (wl c : Addr) (k : Int) (n : Nat) (rest : List (Addr × Obj)) (v : Value) (n' : List (Addr × Obj)) : Prop := ∃ x t t', v = .int x t ∧ 0 ≤ x ∧ x < m ∧ n' = (wl, wellO c (k + 1) t' n) :: rest
set_option maxHeartbeats 8000000
theorem dip (w : World) (wl c : Addr) (k : Int) (t tm : Tok) (n n2 : Nat) (cs : List Value) (rest : List (Addr × Obj)) (hc : (c, listObj cs n2) ∈ rest) (hcs : AllInts cs) (hlen : cs.length ≤ 1000) (hk1 : -1 ≤ k) (hk2 : k ≤ 100) (hoff : ∀ p ∈ rest, p.1 ≠ wl) (m : Int) (hm : 0 < m) (hm2 : m ≤ 100)  : Tel w 322 [.ref wl, .int m tm] 5 60 ((wl, wellO c k t n) :: rest) (RetDip m wl c k n rest) (fun _ => False) := by
  refine Box.out ?_
  simp (disch :=
    k_dflt ((
    refine keepP ?_
    walk_at "my_go"
    intro lo mean mg mb dp un gd outer A₀ base h₀ L hp0 gn0 dr0 tk0 os0 Q E B F X N T hd0 hu0 hP hret hexcN hexc
    (try dsimp only at F)
    (repeat' (first | (k_unfold; (try dsimp only)) | (k_end; kc_close) | ((with_reducible show wpAny _ _ (subscriptTail _ _ _ _) _ _ _); first | ((k_here; (with_reducible show wpAny _ _ (subscriptTail _ _ (Value.ref _) (Value.int _ _)) _ _ _); (with_unfolding_all refine' item_any (P := IsAnyI) ?k1 ?k2 ?k3 ?k4 ?k5 ?_ ?k6 ?k7); (case k5 => assumption); (case k1 => exact isl (by k_asm) (by tm_at "mem")); (case k2 => omega); (case k3 => (simp only [List.size_toArray, decide_eq_true_eq] at *; omega)); (case k4 => omega); (case k6 => with_unfolding_all rfl); (case k7 => (intro _; with_unfolding_all rfl)); k_whole; intro v9 hv9; obtain ⟨x9, tx9, e9⟩ := hv9; subst e9)) | with_reducible ((k_here; (with_reducible show wpAny _ _ (subscriptTail _ _ (Value.ref _) (Value.int _ _)) _ _ _); (with_unfolding_all refine' item_list (News.isList ?n ?m) ?h0 ?hf ?hx ?_ ?hs ?hg; (case n => k_asm); (case m => tm_at "mem"); (case h0 => omega); (case hf => omega); (case hx => first | ((simp only [List.getElem?_toArray, Int.toNat_natCast]); assumption) | exact get0 | exact get1 | exact get2 | exact get3); (case hs => with_unfolding_all rfl); (case hg => intro _; with_unfolding_all rfl); k_whole)))) | ((with_reducible show wpAny _ _ (call (Value.builtin _) _) _ _ _); first | with_reducible ((k_here; (with_reducible show wpAny _ _ (call (Value.builtin _) [Value.ref _]) _ _ _); k_dflt (refine' len_list (News.isList ?n ?m) ?f ?_; (case n => k_asm); (case m => tm_at "mem"); (case f => first | (simp only [List.size_toArray]; omega) | (simp only [List.size_toArray, List.length_cons, List.length_nil]; omega)); k_whole); (try simp only [List.size_toArray, List.length_cons, List.length_nil])))) | walk1 | (dsimp only; walk1) | (leave1; (try dsimp only)) | fail "no step"))
    all_goals exact hret _ _ _ _ (by k_asm) (by k_asm) ⟨_, _, _, rfl, by first | omega | exact Int.fmod_nonneg_of_pos _ (by omega), by first | omega | exact Int.fmod_lt_of_pos _ (by omega), rfl⟩))) only [↓boxed]
end
section
theorem Tel.retn {w : World} {f : Addr} {vs : List Value} {d u : Nat} {news : List (Addr × Obj)} {Ret Ret' : Value → List (Addr × Obj) → Prop} {Exc : PySem.Str → Prop} (C : Tel w f vs d u news Ret Exc)
    (hr : ∀ v n, Ret v n → ∃ n', (∀ p ∈ n', p ∈ n) ∧ Ret' v n') : Tel w f vs d u news Ret' Exc := by
  intro lo mean mg mb dp un gd cn cs a0 ccd cl outer A₀ base h₀ L m s Q E B F X N T hk hd0 hu0 hret hexc
  exact C.use B F X N T hk hd0 hu0 (fun v n h' tk' a b c => by
    obtain ⟨n', q, r⟩ := hr v n c
    exact hret v n' h' tk' a (cb_drop b q) r) hexc
theorem Tel.perm' {w : World} {f : Addr} {vs : List Value} {d u : Nat} {l1 l2 : List (Addr × Obj)} {Ret : Value → List (Addr × Obj) → Prop} {Exc : PySem.Str → Prop} (C : Tel w f vs d u l1 Ret Exc) (h12 : ∀ p ∈ l1, p ∈ l2) (h21 : ∀ p ∈ l2, p ∈ l1) : Tel w f vs d u l2 Ret Exc := by
  intro lo mean mg mb dp un gd cn cs a0 ccd cl outer A₀ base h₀ L m s Q E B F X N T hk hd0 hu0 hret hexc
  exact C.use B F X (cb_drop N h12) T hk hd0 hu0 hret fun k e g n h' tk' a b c d e' => hexc k e g n h' tk' a b c d fun p hp => e' p (h21 p hp)
/-- as RetDip, the well behind pre -/
noncomputable def RetDipP (m : Int) (wl c : Addr) (k : Int) (n : Nat) (pre rest : List (Addr × Obj)) (v : Value) (n' : List (Addr × Obj)) : Prop := ∃ x t t', v = .int x t ∧ 0 ≤ x ∧ x < m ∧ n' = pre ++ (wl, wellO c (k + 1) t' n) :: rest
theorem mem_mid {α : Type} (pre rest : List α) (x : α) : (∀ p ∈ x :: (pre ++ rest), p ∈ pre ++ x :: rest) ∧ ∀ p ∈ pre ++ x :: rest, p ∈ x :: (pre ++ rest) := by
  constructor <;> (intro p hp; simp only [List.mem_cons, List.mem_append] at hp ⊢; rcases hp with h | h | h <;> simp only [h, true_or, or_true])
theorem dipP (w : World) (wl c : Addr) (k : Int) (t tm : Tok) (n n2 : Nat) (cs : List Value) (pre rest : List (Addr × Obj)) (hc : (c, listObj cs n2) ∈ rest) (hcs : AllInts cs) (hlen : cs.length ≤ 1000) (hk1 : -1 ≤ k) (hk2 : k ≤ 100) (hoff : ∀ p ∈ rest, p.1 ≠ wl) (hoff2 : ∀ p ∈ pre, p.1 ≠ wl) (m : Int) (hm : 0 < m) (hm2 : m ≤ 100) :
    Tel w 322 [.ref wl, .int m tm] 5 60 (pre ++ (wl, wellO c k t n) :: rest) (RetDipP m wl c k n pre rest) (fun _ => False) := by
  have mm := mem_mid pre rest (wl, wellO c k t n)
  refine ((dip w wl c k t tm n n2 cs (pre ++ rest) (List.mem_append_right _ hc) hcs hlen hk1 hk2 (fun p hp => (List.mem_append.mp hp).elim (hoff2 p) (hoff p)) m hm hm2).perm' mm.1 mm.2).retn fun v n' z => ?_
  obtain ⟨x, t1, t', e1, e2, e3, e4⟩ := z
  exact ⟨_, e4 ▸ (mem_mid pre rest _).2, x, t1, t', e1, e2, e3, rfl⟩
theorem dip1 (w : World) (wl c : Addr) (k : Int) (t tm : Tok) (n n2 : Nat) (cs : List Value) (p1 : Addr × Obj) (rest : List (Addr × Obj)) (hc : (c, listObj cs n2) ∈ rest) (hcs : AllInts cs) (hlen : cs.length ≤ 1000) (hk1 : -1 ≤ k) (hk2 : k ≤ 100) (hoff : ∀ p ∈ rest, p.1 ≠ wl) (h1 : (p1.1 : Nat) ≠ wl) (m : Int) (hm : 0 < m) (hm2 : m ≤ 100) :
    Tel w 322 [.ref wl, .int m tm] 5 60 (p1 :: (wl, wellO c k t n) :: rest) (RetDipP m wl c k n [p1] rest) (fun _ => False) := dipP w wl c k t tm n n2 cs [p1] rest hc hcs hlen hk1 hk2 hoff (fun p hp => by rw [List.mem_singleton.mp hp]; exact h1) m hm hm2
set_option maxHeartbeats 8000000
noncomputable def RetArg (wl c : Addr) (k : Int) (n : Nat) (rest : List (Addr × Obj)) (v : Value) (n' : List (Addr × Obj)) : Prop := IsIn v ∧ ∃ t', n' = (wl, wellO c (k + 2) t' n) :: rest
theorem end_arg {h₀ h : Heap} {L wl c : Addr} {k : Int} {t : Tok} {n : Nat} {x : Addr × Obj} {rest : List (Addr × Obj)} (N : News h₀ L h (x :: (wl, wellO c (k + 1 + 1) t n) :: rest)) : News h₀ L h ((wl, wellO c (k + 2) t n) :: rest) := by
  have e : k + 1 + 1 = k + 2 := by omega
  rw [e] at N
  exact cb_drop N fun p hp => .tail _ hp
theorem argument (w : World) (wl c : Addr) (k : Int) (t : Tok) (n n2 : Nat) (cs : List Value) (rest : List (Addr × Obj)) (hc : (c, listObj cs n2) ∈ rest) (hcs : AllInts cs) (hlen : cs.length ≤ 1000) (hk1 : -1 ≤ k) (hk2 : k ≤ 90) (hoff : ∀ p ∈ rest, p.1 ≠ wl) (b : Bool)  : Tel w 336 [.ref wl, .bool b] 15 150 ((wl, wellO c k t n) :: rest) (RetArg wl c k n rest) (fun _ => False) := by
  refine Box.out ?_
  simp (disch :=
    k_dflt ((
    refine keepP ?_
    walk_at "my_go"
    intro lo mean mg mb dp un gd outer A₀ base h₀ L hp0 gn0 dr0 tk0 os0 Q E B F X N T hd0 hu0 hP hret hexcN hexc
    (try dsimp only at F)
    (repeat' (first | (k_unfold; (try dsimp only)) | (k_end; kc_close) | ((with_reducible show wpAny _ _ (subscriptTail _ _ _ _) _ _ _); first | ((k_here; (with_reducible show wpAny _ _ (subscriptTail _ _ (Value.ref _) (Value.int _ _)) _ _ _); (with_unfolding_all refine' item_any (P := IsIn) ?k1 ?k2 ?k3 ?k4 ?k5 ?_ ?k6 ?k7); (case k5 => assumption); (case k1 => exact isl (by k_asm) (by tm_at "mem")); (case k2 => omega); (case k3 => omega); (case k4 => omega); (case k6 => with_unfolding_all rfl); (case k7 => (intro _; with_unfolding_all rfl)); k_whole; intro v9 hv9))) | ((with_reducible show wpAny _ _ (call (Value.ref _) _) _ _ _); first | with_reducible ((k_here; k_dflt ((show wpAny _ _ (call (Value.ref 315) []) _ _ _); ktr_call z9 (l_nums _ _)); (((case ke => exact fun _ _ _ _ _ _ hk9 => (show False from hk9).elim); intro v9 n9 h9 tk9 F9 N9 hv9; (unfold RetL at hv9); obtain ⟨a9, vs9, k9, e1, lt9, len9, all9, e2⟩ := hv9; subst e1; replace e2 := e2.symm; subst e2; (try k_lt lt9); (try dsimp only); (try k_fold))))) | with_reducible ((k_here; k_dflt ((show wpAny _ _ (call (Value.ref 308) []) _ _ _); ktr_call z9 (l_txts _ _)); (((case ke => exact fun _ _ _ _ _ _ hk9 => (show False from hk9).elim); intro v9 n9 h9 tk9 F9 N9 hv9; (unfold RetL at hv9); obtain ⟨a9, vs9, k9, e1, lt9, len9, all9, e2⟩ := hv9; subst e1; replace e2 := e2.symm; subst e2; (try k_lt lt9); (try dsimp only); (try k_fold))))) | with_reducible ((k_here; (with_reducible show wpAny _ _ (call (Value.ref 322) [Value.ref _, Value.int _ _]) _ _ _); k_dflt (ktr_call z9 (dip1 _ _ _ _ _ _ _ _ _ _ _ ?p1 ?p2 ?p3 ?p4 ?p5 ?p6 ?p9 _ ?p7 ?p8); (case p1 => tm_at "mem"); (case p2 => assumption); (case p3 => assumption); (case p4 => omega); (case p5 => omega); (case p6 => assumption); (case p9 => ((refine Nat.ne_of_gt ?_; dsimp only; (first | assumption | exact And.left (by assumption) | exact And.left (And.right (by assumption)) | exact And.left (And.right (And.right (by assumption))) | exact And.left (And.right (And.right (And.right (by assumption)))) | exact And.left (And.right (And.right (And.right (And.right (by assumption))))) | exact And.left (And.right (And.right (And.right (And.right (And.right (by assumption)))))) | exact And.left (And.right (And.right (And.right (And.right (And.right (And.right (by assumption))))))) | exact And.left (And.right (And.right (And.right (And.right (And.right (And.right (And.right (by assumption)))))))) | exact And.left (And.right (And.right (And.right (And.right (And.right (And.right (And.right (And.right (by assumption))))))))) | exact And.left (And.right (And.right (And.right (And.right (And.right (And.right (And.right (And.right (And.right (by assumption)))))))))) | omega)))); (case p7 => decide); (case p8 => decide)); (((case ke => exact fun _ _ _ _ _ _ hk9 => (show False from hk9).elim); intro v9 n9 h9 tk9 F9 N9 hv9; (dsimp only [RetDip, RetDipP] at hv9); obtain ⟨x9, t9, t9', e1, lo9, hi9, e2⟩ := hv9; subst e1; replace e2 := e2.symm; subst e2; (try simp only [List.cons_append, List.nil_append] at N9); (try dsimp only); (try k_fold))))) | with_reducible ((k_here; (with_reducible show wpAny _ _ (call (Value.ref 322) [Value.ref _, Value.int _ _]) _ _ _); k_dflt (ktr_call z9 (dip _ _ _ _ _ _ _ _ _ _ ?p1 ?p2 ?p3 ?p4 ?p5 ?p6 _ ?p7 ?p8); (case p1 => tm_at "mem"); (case p2 => assumption); (case p3 => assumption); (case p4 => omega); (case p5 => omega); (case p6 => assumption); (case p7 => decide); (case p8 => decide)); (((case ke => exact fun _ _ _ _ _ _ hk9 => (show False from hk9).elim); intro v9 n9 h9 tk9 F9 N9 hv9; (dsimp only [RetDip, RetDipP] at hv9); obtain ⟨x9, t9, t9', e1, lo9, hi9, e2⟩ := hv9; subst e1; replace e2 := e2.symm; subst e2; (try simp only [List.cons_append, List.nil_append] at N9); (try dsimp only); (try k_fold)))))) | walk1 | (dsimp only; walk1) | (leave1; (try dsimp only)) | fail "no step"))
    all_goals exact hret _ _ _ _ (by k_asm) (end_arg (by k_asm)) ⟨by assumption, _, rfl⟩))) only [↓boxed]
end
section
theorem foldl_rep (v : Value) : ∀ (n : Nat) (acc : Array Value), List.foldl (fun x1 x2 => x1 ++ x2) acc (List.replicate n #[v]) = acc ++ (List.replicate n v).toArray
  | 0, acc => by simp
  | n + 1, acc => by
    rw [List.replicate_succ, List.foldl_cons, foldl_rep v n, List.replicate_succ, Array.append_assoc]
    congr 1
    apply Array.ext'
    simp only [Array.toList_append, List.cons_append, List.nil_append]
theorem mul1 {w : World} {prog : Program} {A : Around} {E : Value → Shared → Prop} {s : Shared} {h₀ : Heap} {L : Addr} {m : PySem.Str → Option Value} {news : List (Addr × Obj)} {l : Addr} {v : Value} {k : Nat} {x : Int} {u : Tok} {Q : Value → Shared → Prop}
    (F : Fr h₀ L s.heap m) (N : News h₀ L s.heap news) (hm : (l, listObj [v] k) ∈ news) (hlo : -1000 ≤ x) (hhi : x ≤ 1000)
    (h : ∀ a h' k', Fr h₀ L h' m → News h₀ L h' ((a, listObj (List.replicate x.toNat v) k') :: news) → (∀ p ∈ news, p.1 < a) → Q (.ref a) { s with heap := h' }) :
    wpAny (model prog w) A (binaryOp .Mult (.ref l) (.int x u)) Q E s := by
  refine mul_list F N (N.get hm) (by omega) (by omega) ?_ fun h' F' N' => ?_
  · have : x.toNat ≤ 1000 := by omega
    simp
    omega
  · have e : List.foldl (fun x1 x2 => x1 ++ x2) #[] (List.replicate (if ([v] : List Value).toArray.isEmpty = true then 0 else x.toNat) ([v] : List Value).toArray) = (List.replicate x.toNat v).toArray := by
      rw [if_neg (by simp)]
      exact (foldl_rep v _ _).trans (by simp)
    rw [e] at N'
    exact h _ h' _ F' N' fun p hp => Heap.lt_size (N p hp).1
theorem addL {w : World} {prog : Program} {A : Around} {E : Value → Shared → Prop} {s : Shared} {h₀ : Heap} {L : Addr} {m : PySem.Str → Option Value} {news : List (Addr × Obj)} {l b : Addr} {vs ws : List Value} {k k2 : Nat} {Q : Value → Shared → Prop}
    (F : Fr h₀ L s.heap m) (N : News h₀ L s.heap news) (hm : (l, listObj vs k) ∈ news) (hb : (b, listObj ws k2) ∈ news) (h1 : vs.length ≤ 10000) (h2 : ws.length ≤ 10000)
    (h : ∀ a h' k', Fr h₀ L h' m → News h₀ L h' ((a, listObj (vs ++ ws) k') :: news) → (∀ p ∈ news, p.1 < a) → Q (.ref a) { s with heap := h' }) :
    wpAny (model prog w) A (binaryOp .Add (.ref l) (.ref b)) Q E s := by
  refine add_arrays F N (isl N hm) (isl N hb) (fun h' F' N' => ?_) ?_
  · exact h _ h' _ F' (by simpa using N') fun p hp => Heap.lt_size (N p hp).1
  · have : sizeLine = 2 ^ 24 := rfl
    simp only [List.size_toArray]
    omega
end
local macro_rules | `(tactic| walk_at "my_size") => `(tactic| first | omega | (simp only [List.length_append, List.length_replicate, List.length_cons, List.length_nil]; omega))
local macro_rules | `(tactic| walk_at "my_off") => `(tactic| first | assumption | exact True.intro | (refine And.intro (by assumption) ?_; walk_at "my_off") | (refine And.intro ⟨by k_ne, by k_ne, by k_ne⟩ ?_; walk_at "my_off"))
local macro_rules | `(tactic| walk_at "my_csrc") => `(tactic| first | exact True.intro | exact trivial | exact Or.inl (by assumption) | exact Or.inr ⟨_, by tm_at "mem", rfl, _, rfl⟩)
section
noncomputable def IsB (v : Value) : Prop := ∃ b, v = .bool b
noncomputable def AllB (vs : List Value) : Prop := ∀ v ∈ vs, IsB v
theorem allb_nil : AllB [] := fun v h => by cases h
theorem allb_cons {b : Bool} {l : List Value} (r : AllB l) : AllB (.bool b :: l) := all_cons ⟨b, rfl⟩ r
theorem allb_app {l l' : List Value} (h : AllB l) (h' : AllB l') : AllB (l ++ l') := fun v hv => (List.mem_append.mp hv).elim (h v) (h' v)
theorem allb_rep {b : Bool} {n : Nat} : AllB (List.replicate n (.bool b)) := fun v hv => ⟨b, (List.mem_replicate.mp hv).2⟩
theorem off1_mem {D : Addr} : ∀ {l : List (Addr × Obj)}, LCg.Off1 D l → ∀ p ∈ l, p.1 ≠ D
  | [], _, _, h => nomatch h
  | _ :: _, x, p, h => by
    rcases List.mem_cons.mp h with rfl | h
    · exact x.1
    · exact off1_mem x.2 p h
/-- as RetL, its place only told apart -/
noncomputable def RetLn (P : Value → Prop) (m : Nat) (news : List (Addr × Obj)) (v : Value) (n : List (Addr × Obj)) : Prop := ∃ a vs k, v = .ref a ∧ (∀ p ∈ news, p.1 ≠ a) ∧ vs.length = m ∧ (∀ v ∈ vs, P v) ∧ n = (a, listObj vs k) :: news
set_option maxHeartbeats 8000000
local macro_rules | `(tactic| walk_at "my_allB") => `(tactic| (first | exact allb_nil | exact allb_rep | exact allb_app allb_rep allb_rep | (refine allb_cons ?_; walk_at "my_allB")))
theorem kindsN (w : World) (wd : PySem.Str) (hok : PyData.strOk wd = true) (hn : isNum wd = true) (mm : Int) (hm1 : 1 ≤ mm) (hm4 : mm ≤ 4) (t tm : Tok) (news : List (Addr × Obj)) : Tel w 341 [.str wd t, .int mm tm] 10 100 news (RetLn IsB mm.toNat news) (fun _ => False) := by
  refine Box.out ?_
  simp (disch :=
    k_dflt ((
    refine keepP ?_
    walk_at "my_go"
    intro lo mean mg mb dp un gd outer A₀ base h₀ L hp0 gn0 dr0 tk0 os0 Q E B F X N T hd0 hu0 hP hret hexcN hexc
    (try dsimp only at F)
    (repeat' (first | (k_unfold; (try dsimp only)) | (k_end; kc_close) | ((with_reducible show wpAny _ _ (binaryOp Operator.Mult _ _) _ _ _); first | with_reducible ((k_here; (with_reducible show wpAny _ _ (binaryOp Operator.Mult (Value.ref _) (Value.int _ _)) _ _ _); k_dflt (refine mul1 (by k_asm) (by k_asm) (by tm_at "mem") (by omega) (by omega) ?_); intro D' h' k' F' N' l1'; (try k_lt l1')))) | walk1 | (dsimp only; walk1) | (leave1; (try dsimp only)) | fail "no step"))
    all_goals exact hret _ ((_, listObj (List.replicate mm.toNat (.bool false)) _) :: news) _ _ (by k_asm) (dropx (by k_asm) (by walk_at "my_subs")) ⟨_, _, _, rfl, by (first | assumption | exact off1_mem (by (first | assumption | exact And.right (by assumption) | exact And.right (And.right (by assumption)) | exact And.right (And.right (And.right (by assumption))))) | (refine fun p9 hp9 => Nat.ne_of_lt (?_ : p9.1 < _); exact allLt_mem _ (by walk_at "my_allLt") p9 hp9)), by first | rfl | (simp only [List.length_replicate, List.length_append]; done) | (simp only [List.length_replicate, List.length_append]; omega), by ((first | exact allb_nil | exact allb_rep | exact allb_app allb_rep allb_rep | (refine allb_cons ?_; ((first | exact allb_nil | exact allb_rep | exact allb_app allb_rep allb_rep | (refine allb_cons ?_; ((first | exact allb_nil | exact allb_rep | exact allb_app allb_rep allb_rep | (refine allb_cons ?_; ((first | exact allb_nil | exact allb_rep | exact allb_app allb_rep allb_rep | (refine allb_cons ?_; ((first | exact allb_nil | exact allb_rep | exact allb_app allb_rep allb_rep | (refine allb_cons ?_; ((first | exact allb_nil | exact allb_rep | exact allb_app allb_rep allb_rep | (refine allb_cons ?_; ((first | exact allb_nil | exact allb_rep | exact allb_app allb_rep allb_rep | (refine allb_cons ?_; ((first | exact allb_nil | exact allb_rep | exact allb_app allb_rep allb_rep | (refine allb_cons ?_; ((first | exact allb_nil | exact allb_rep | exact allb_app allb_rep allb_rep | (refine allb_cons ?_; ((first | exact allb_nil | exact allb_rep | exact allb_app allb_rep allb_rep | (refine allb_cons ?_; ((first | exact allb_nil | exact allb_rep | exact allb_app allb_rep allb_rep | (refine allb_cons ?_; ((first | exact allb_nil | exact allb_rep | exact allb_app allb_rep allb_rep | (refine allb_cons ?_; ((first | exact allb_nil | exact allb_rep | exact allb_app allb_rep allb_rep | (refine allb_cons ?_; walk_at "my_allB"))))))))))))))))))))))))))))))))))))))), rfl⟩))) only [↓boxed]
theorem kindsI (w : World) (mm : Int) (hm1 : 1 ≤ mm) (hm4 : mm ≤ 4) (t tm : Tok) (news : List (Addr × Obj)) : Tel w 341 [.str "INSTR" t, .int mm tm] 10 100 news (RetLn IsB mm.toNat news) (fun _ => False) := by
  refine Box.out ?_
  simp (disch :=
    k_dflt ((
    refine keepP ?_
    walk_at "my_go"
    intro lo mean mg mb dp un gd outer A₀ base h₀ L hp0 gn0 dr0 tk0 os0 Q E B F X N T hd0 hu0 hP hret hexcN hexc
    (try dsimp only at F)
    (repeat' (first | (k_unfold; (try dsimp only)) | (k_end; kc_close) | ((with_reducible show wpAny _ _ (binaryOp Operator.Add _ _) _ _ _); first | with_reducible ((k_here; (with_reducible show wpAny _ _ (binaryOp Operator.Add (Value.ref _) (Value.ref _)) _ _ _); k_dflt (refine addL (by k_asm) (by k_asm) (by tm_at "mem") (by tm_at "mem") (by walk_at "my_size") (by walk_at "my_size") ?_); intro D' h' k' F' N' l1'; (try k_lt l1')))) | ((with_reducible show wpAny _ _ (binaryOp Operator.Mult _ _) _ _ _); first | with_reducible ((k_here; (with_reducible show wpAny _ _ (binaryOp Operator.Mult (Value.ref _) (Value.int _ _)) _ _ _); k_dflt (refine mul1 (by k_asm) (by k_asm) (by tm_at "mem") (by omega) (by omega) ?_); intro D' h' k' F' N' l1'; (try k_lt l1')))) | walk1 | (dsimp only; walk1) | (leave1; (try dsimp only)) | fail "no step"))
    all_goals exact hret _ ((_, listObj (List.replicate _ (.bool false) ++ List.replicate _ (.bool true)) _) :: news) _ _ (by k_asm) (dropx (by k_asm) (by walk_at "my_subs")) ⟨_, _, _, rfl, by (first | assumption | exact off1_mem (by (first | assumption | exact And.right (by assumption) | exact And.right (And.right (by assumption)) | exact And.right (And.right (And.right (by assumption))))) | (refine fun p9 hp9 => Nat.ne_of_lt (?_ : p9.1 < _); exact allLt_mem _ (by walk_at "my_allLt") p9 hp9)), by first | rfl | (simp only [List.length_replicate, List.length_append]; done) | (simp only [List.length_replicate, List.length_append]; omega), by ((first | exact allb_nil | exact allb_rep | exact allb_app allb_rep allb_rep | (refine allb_cons ?_; ((first | exact allb_nil | exact allb_rep | exact allb_app allb_rep allb_rep | (refine allb_cons ?_; ((first | exact allb_nil | exact allb_rep | exact allb_app allb_rep allb_rep | (refine allb_cons ?_; ((first | exact allb_nil | exact allb_rep | exact allb_app allb_rep allb_rep | (refine allb_cons ?_; ((first | exact allb_nil | exact allb_rep | exact allb_app allb_rep allb_rep | (refine allb_cons ?_; ((first | exact allb_nil | exact allb_rep | exact allb_app allb_rep allb_rep | (refine allb_cons ?_; ((first | exact allb_nil | exact allb_rep | exact allb_app allb_rep allb_rep | (refine allb_cons ?_; ((first | exact allb_nil | exact allb_rep | exact allb_app allb_rep allb_rep | (refine allb_cons ?_; ((first | exact allb_nil | exact allb_rep | exact allb_app allb_rep allb_rep | (refine allb_cons ?_; ((first | exact allb_nil | exact allb_rep | exact allb_app allb_rep allb_rep | (refine allb_cons ?_; ((first | exact allb_nil | exact allb_rep | exact allb_app allb_rep allb_rep | (refine allb_cons ?_; ((first | exact allb_nil | exact allb_rep | exact allb_app allb_rep allb_rep | (refine allb_cons ?_; ((first | exact allb_nil | exact allb_rep | exact allb_app allb_rep allb_rep | (refine allb_cons ?_; walk_at "my_allB"))))))))))))))))))))))))))))))))))))))), rfl⟩))) only [↓boxed]
theorem kindsT1 (w : World) (wd : PySem.Str) (hok : PyData.strOk wd = true) (hn : isNum wd = false) (hni : ("INSTR" == wd) = false) (t tm : Tok) (news : List (Addr × Obj)) : Tel w 341 [.str wd t, .int 1 tm] 10 100 news (RetLn IsB 1 news) (fun _ => False) := by
  refine Box.out ?_
  simp (disch :=
    k_dflt ((
    refine keepP ?_
    walk_at "my_go"
    intro lo mean mg mb dp un gd outer A₀ base h₀ L hp0 gn0 dr0 tk0 os0 Q E B F X N T hd0 hu0 hP hret hexcN hexc
    (try dsimp only at F)
    (repeat' (first | (k_unfold; (try dsimp only)) | (k_end; kc_close) | ((refine LCg.CompEnd.intro (by assumption) (by assumption) _ (fun _ h9 => h9) (by walk_at "my_off") (by walk_at "my_csrc") ?_)) | ((with_reducible show wpAny _ _ (binaryOp Operator.Add _ _) _ _ _); first | with_reducible ((k_here; (with_reducible show wpAny _ _ (binaryOp Operator.Add (Value.ref _) (Value.ref _)) _ _ _); k_dflt (refine addL (by k_asm) (by k_asm) (by tm_at "mem") (by tm_at "mem") (by walk_at "my_size") (by walk_at "my_size") ?_); intro D' h' k' F' N' l1'; (try k_lt l1')))) | ((with_reducible show wpAny _ _ (binaryOp Operator.Mult _ _) _ _ _); first | with_reducible ((k_here; (with_reducible show wpAny _ _ (binaryOp Operator.Mult (Value.ref _) (Value.int _ _)) _ _ _); k_dflt (refine mul1 (by k_asm) (by k_asm) (by tm_at "mem") (by omega) (by omega) ?_); intro D' h' k' F' N' l1'; (try k_lt l1')))) | walk1 | (dsimp only; walk1) | (leave1; (try dsimp only)) | fail "no step"))
    all_goals exact hret _ ((_, listObj [_] _) :: news) _ _ (by k_asm) (dropx (by k_asm) (by walk_at "my_subs")) ⟨_, _, _, rfl, by (first | assumption | exact off1_mem (by (first | assumption | exact And.right (by assumption) | exact And.right (And.right (by assumption)) | exact And.right (And.right (And.right (by assumption))))) | (refine fun p9 hp9 => Nat.ne_of_lt (?_ : p9.1 < _); exact allLt_mem _ (by walk_at "my_allLt") p9 hp9)), by first | rfl | (simp only [List.length_replicate, List.length_append]; done) | (simp only [List.length_replicate, List.length_append]; omega), by ((first | exact allb_nil | exact allb_rep | exact allb_app allb_rep allb_rep | (refine allb_cons ?_; ((first | exact allb_nil | exact allb_rep | exact allb_app allb_rep allb_rep | (refine allb_cons ?_; ((first | exact allb_nil | exact allb_rep | exact allb_app allb_rep allb_rep | (refine allb_cons ?_; ((first | exact allb_nil | exact allb_rep | exact allb_app allb_rep allb_rep | (refine allb_cons ?_; ((first | exact allb_nil | exact allb_rep | exact allb_app allb_rep allb_rep | (refine allb_cons ?_; ((first | exact allb_nil | exact allb_rep | exact allb_app allb_rep allb_rep | (refine allb_cons ?_; ((first | exact allb_nil | exact allb_rep | exact allb_app allb_rep allb_rep | (refine allb_cons ?_; ((first | exact allb_nil | exact allb_rep | exact allb_app allb_rep allb_rep | (refine allb_cons ?_; ((first | exact allb_nil | exact allb_rep | exact allb_app allb_rep allb_rep | (refine allb_cons ?_; ((first | exact allb_nil | exact allb_rep | exact allb_app allb_rep allb_rep | (refine allb_cons ?_; ((first | exact allb_nil | exact allb_rep | exact allb_app allb_rep allb_rep | (refine allb_cons ?_; ((first | exact allb_nil | exact allb_rep | exact allb_app allb_rep allb_rep | (refine allb_cons ?_; ((first | exact allb_nil | exact allb_rep | exact allb_app allb_rep allb_rep | (refine allb_cons ?_; walk_at "my_allB"))))))))))))))))))))))))))))))))))))))), rfl⟩))) only [↓boxed]
theorem kindsT2 (w : World) (wd : PySem.Str) (hok : PyData.strOk wd = true) (hn : isNum wd = false) (hni : ("INSTR" == wd) = false) (t tm : Tok) (news : List (Addr × Obj)) : Tel w 341 [.str wd t, .int 2 tm] 10 100 news (RetLn IsB 2 news) (fun _ => False) := by
  refine Box.out ?_
  simp (disch :=
    k_dflt ((
    refine keepP ?_
    walk_at "my_go"
    intro lo mean mg mb dp un gd outer A₀ base h₀ L hp0 gn0 dr0 tk0 os0 Q E B F X N T hd0 hu0 hP hret hexcN hexc
    (try dsimp only at F)
    (repeat' (first | (k_unfold; (try dsimp only)) | (k_end; kc_close) | ((refine LCg.CompEnd.intro (by assumption) (by assumption) _ (fun _ h9 => h9) (by walk_at "my_off") (by walk_at "my_csrc") ?_)) | ((with_reducible show wpAny _ _ (binaryOp Operator.Add _ _) _ _ _); first | with_reducible ((k_here; (with_reducible show wpAny _ _ (binaryOp Operator.Add (Value.ref _) (Value.ref _)) _ _ _); k_dflt (refine addL (by k_asm) (by k_asm) (by tm_at "mem") (by tm_at "mem") (by walk_at "my_size") (by walk_at "my_size") ?_); intro D' h' k' F' N' l1'; (try k_lt l1')))) | ((with_reducible show wpAny _ _ (binaryOp Operator.Mult _ _) _ _ _); first | with_reducible ((k_here; (with_reducible show wpAny _ _ (binaryOp Operator.Mult (Value.ref _) (Value.int _ _)) _ _ _); k_dflt (refine mul1 (by k_asm) (by k_asm) (by tm_at "mem") (by omega) (by omega) ?_); intro D' h' k' F' N' l1'; (try k_lt l1')))) | walk1 | (dsimp only; walk1) | (leave1; (try dsimp only)) | fail "no step"))
    all_goals exact hret _ ((_, listObj [_, _] _) :: news) _ _ (by k_asm) (dropx (by k_asm) (by walk_at "my_subs")) ⟨_, _, _, rfl, by (first | assumption | exact off1_mem (by (first | assumption | exact And.right (by assumption) | exact And.right (And.right (by assumption)) | exact And.right (And.right (And.right (by assumption))))) | (refine fun p9 hp9 => Nat.ne_of_lt (?_ : p9.1 < _); exact allLt_mem _ (by walk_at "my_allLt") p9 hp9)), by first | rfl | (simp only [List.length_replicate, List.length_append]; done) | (simp only [List.length_replicate, List.length_append]; omega), by ((first | exact allb_nil | exact allb_rep | exact allb_app allb_rep allb_rep | (refine allb_cons ?_; ((first | exact allb_nil | exact allb_rep | exact allb_app allb_rep allb_rep | (refine allb_cons ?_; ((first | exact allb_nil | exact allb_rep | exact allb_app allb_rep allb_rep | (refine allb_cons ?_; ((first | exact allb_nil | exact allb_rep | exact allb_app allb_rep allb_rep | (refine allb_cons ?_; ((first | exact allb_nil | exact allb_rep | exact allb_app allb_rep allb_rep | (refine allb_cons ?_; ((first | exact allb_nil | exact allb_rep | exact allb_app allb_rep allb_rep | (refine allb_cons ?_; ((first | exact allb_nil | exact allb_rep | exact allb_app allb_rep allb_rep | (refine allb_cons ?_; ((first | exact allb_nil | exact allb_rep | exact allb_app allb_rep allb_rep | (refine allb_cons ?_; ((first | exact allb_nil | exact allb_rep | exact allb_app allb_rep allb_rep | (refine allb_cons ?_; ((first | exact allb_nil | exact allb_rep | exact allb_app allb_rep allb_rep | (refine allb_cons ?_; ((first | exact allb_nil | exact allb_rep | exact allb_app allb_rep allb_rep | (refine allb_cons ?_; ((first | exact allb_nil | exact allb_rep | exact allb_app allb_rep allb_rep | (refine allb_cons ?_; ((first | exact allb_nil | exact allb_rep | exact allb_app allb_rep allb_rep | (refine allb_cons ?_; walk_at "my_allB"))))))))))))))))))))))))))))))))))))))), rfl⟩))) only [↓boxed]
theorem kindsT3 (w : World) (wd : PySem.Str) (hok : PyData.strOk wd = true) (hn : isNum wd = false) (hni : ("INSTR" == wd) = false) (t tm : Tok) (news : List (Addr × Obj)) : Tel w 341 [.str wd t, .int 3 tm] 10 100 news (RetLn IsB 3 news) (fun _ => False) := by
  refine Box.out ?_
  simp (disch :=
    k_dflt ((
    refine keepP ?_
    walk_at "my_go"
    intro lo mean mg mb dp un gd outer A₀ base h₀ L hp0 gn0 dr0 tk0 os0 Q E B F X N T hd0 hu0 hP hret hexcN hexc
    (try dsimp only at F)
    (repeat' (first | (k_unfold; (try dsimp only)) | (k_end; kc_close) | ((refine LCg.CompEnd.intro (by assumption) (by assumption) _ (fun _ h9 => h9) (by walk_at "my_off") (by walk_at "my_csrc") ?_)) | ((with_reducible show wpAny _ _ (binaryOp Operator.Add _ _) _ _ _); first | with_reducible ((k_here; (with_reducible show wpAny _ _ (binaryOp Operator.Add (Value.ref _) (Value.ref _)) _ _ _); k_dflt (refine addL (by k_asm) (by k_asm) (by tm_at "mem") (by tm_at "mem") (by walk_at "my_size") (by walk_at "my_size") ?_); intro D' h' k' F' N' l1'; (try k_lt l1')))) | ((with_reducible show wpAny _ _ (binaryOp Operator.Mult _ _) _ _ _); first | with_reducible ((k_here; (with_reducible show wpAny _ _ (binaryOp Operator.Mult (Value.ref _) (Value.int _ _)) _ _ _); k_dflt (refine mul1 (by k_asm) (by k_asm) (by tm_at "mem") (by omega) (by omega) ?_); intro D' h' k' F' N' l1'; (try k_lt l1')))) | walk1 | (dsimp only; walk1) | (leave1; (try dsimp only)) | fail "no step"))
    all_goals exact hret _ ((_, listObj [_, _, _] _) :: news) _ _ (by k_asm) (dropx (by k_asm) (by walk_at "my_subs")) ⟨_, _, _, rfl, by (first | assumption | exact off1_mem (by (first | assumption | exact And.right (by assumption) | exact And.right (And.right (by assumption)) | exact And.right (And.right (And.right (by assumption))))) | (refine fun p9 hp9 => Nat.ne_of_lt (?_ : p9.1 < _); exact allLt_mem _ (by walk_at "my_allLt") p9 hp9)), by first | rfl | (simp only [List.length_replicate, List.length_append]; done) | (simp only [List.length_replicate, List.length_append]; omega), by ((first | exact allb_nil | exact allb_rep | exact allb_app allb_rep allb_rep | (refine allb_cons ?_; ((first | exact allb_nil | exact allb_rep | exact allb_app allb_rep allb_rep | (refine allb_cons ?_; ((first | exact allb_nil | exact allb_rep | exact allb_app allb_rep allb_rep | (refine allb_cons ?_; ((first | exact allb_nil | exact allb_rep | exact allb_app allb_rep allb_rep | (refine allb_cons ?_; ((first | exact allb_nil | exact allb_rep | exact allb_app allb_rep allb_rep | (refine allb_cons ?_; ((first | exact allb_nil | exact allb_rep | exact allb_app allb_rep allb_rep | (refine allb_cons ?_; ((first | exact allb_nil | exact allb_rep | exact allb_app allb_rep allb_rep | (refine allb_cons ?_; ((first | exact allb_nil | exact allb_rep | exact allb_app allb_rep allb_rep | (refine allb_cons ?_; ((first | exact allb_nil | exact allb_rep | exact allb_app allb_rep allb_rep | (refine allb_cons ?_; ((first | exact allb_nil | exact allb_rep | exact allb_app allb_rep allb_rep | (refine allb_cons ?_; ((first | exact allb_nil | exact allb_rep | exact allb_app allb_rep allb_rep | (refine allb_cons ?_; ((first | exact allb_nil | exact allb_rep | exact allb_app allb_rep allb_rep | (refine allb_cons ?_; ((first | exact allb_nil | exact allb_rep | exact allb_app allb_rep allb_rep | (refine allb_cons ?_; walk_at "my_allB"))))))))))))))))))))))))))))))))))))))), rfl⟩))) only [↓boxed]
theorem kindsT4 (w : World) (wd : PySem.Str) (hok : PyData.strOk wd = true) (hn : isNum wd = false) (hni : ("INSTR" == wd) = false) (t tm : Tok) (news : List (Addr × Obj)) : Tel w 341 [.str wd t, .int 4 tm] 10 100 news (RetLn IsB 4 news) (fun _ => False) := by
  refine Box.out ?_
  simp (disch :=
    k_dflt ((
    refine keepP ?_
    walk_at "my_go"
    intro lo mean mg mb dp un gd outer A₀ base h₀ L hp0 gn0 dr0 tk0 os0 Q E B F X N T hd0 hu0 hP hret hexcN hexc
    (try dsimp only at F)
    (repeat' (first | (k_unfold; (try dsimp only)) | (k_end; kc_close) | ((refine LCg.CompEnd.intro (by assumption) (by assumption) _ (fun _ h9 => h9) (by walk_at "my_off") (by walk_at "my_csrc") ?_)) | ((with_reducible show wpAny _ _ (binaryOp Operator.Add _ _) _ _ _); first | with_reducible ((k_here; (with_reducible show wpAny _ _ (binaryOp Operator.Add (Value.ref _) (Value.ref _)) _ _ _); k_dflt (refine addL (by k_asm) (by k_asm) (by tm_at "mem") (by tm_at "mem") (by walk_at "my_size") (by walk_at "my_size") ?_); intro D' h' k' F' N' l1'; (try k_lt l1')))) | ((with_reducible show wpAny _ _ (binaryOp Operator.Mult _ _) _ _ _); first | with_reducible ((k_here; (with_reducible show wpAny _ _ (binaryOp Operator.Mult (Value.ref _) (Value.int _ _)) _ _ _); k_dflt (refine mul1 (by k_asm) (by k_asm) (by tm_at "mem") (by omega) (by omega) ?_); intro D' h' k' F' N' l1'; (try k_lt l1')))) | walk1 | (dsimp only; walk1) | (leave1; (try dsimp only)) | fail "no step"))
    all_goals exact hret _ ((_, listObj [_, _, _, _] _) :: news) _ _ (by k_asm) (dropx (by k_asm) (by walk_at "my_subs")) ⟨_, _, _, rfl, by (first | assumption | exact off1_mem (by (first | assumption | exact And.right (by assumption) | exact And.right (And.right (by assumption)) | exact And.right (And.right (And.right (by assumption))))) | (refine fun p9 hp9 => Nat.ne_of_lt (?_ : p9.1 < _); exact allLt_mem _ (by walk_at "my_allLt") p9 hp9)), by first | rfl | (simp only [List.length_replicate, List.length_append]; done) | (simp only [List.length_replicate, List.length_append]; omega), by ((first | exact allb_nil | exact allb_rep | exact allb_app allb_rep allb_rep | (refine allb_cons ?_; ((first | exact allb_nil | exact allb_rep | exact allb_app allb_rep allb_rep | (refine allb_cons ?_; ((first | exact allb_nil | exact allb_rep | exact allb_app allb_rep allb_rep | (refine allb_cons ?_; ((first | exact allb_nil | exact allb_rep | exact allb_app allb_rep allb_rep | (refine allb_cons ?_; ((first | exact allb_nil | exact allb_rep | exact allb_app allb_rep allb_rep | (refine allb_cons ?_; ((first | exact allb_nil | exact allb_rep | exact allb_app allb_rep allb_rep | (refine allb_cons ?_; ((first | exact allb_nil | exact allb_rep | exact allb_app allb_rep allb_rep | (refine allb_cons ?_; ((first | exact allb_nil | exact allb_rep | exact allb_app allb_rep allb_rep | (refine allb_cons ?_; ((first | exact allb_nil | exact allb_rep | exact allb_app allb_rep allb_rep | (refine allb_cons ?_; ((first | exact allb_nil | exact allb_rep | exact allb_app allb_rep allb_rep | (refine allb_cons ?_; ((first | exact allb_nil | exact allb_rep | exact allb_app allb_rep allb_rep | (refine allb_cons ?_; ((first | exact allb_nil | exact allb_rep | exact allb_app allb_rep allb_rep | (refine allb_cons ?_; ((first | exact allb_nil | exact allb_rep | exact allb_app allb_rep allb_rep | (refine allb_cons ?_; walk_at "my_allB"))))))))))))))))))))))))))))))))))))))), rfl⟩))) only [↓boxed]
end
section
theorem kinds_all (w : World) (wd : PySem.Str) (hw : wd ∈ WORDS) (hok : PyData.strOk wd = true) (mm : Int) (h1 : 1 ≤ mm) (h4 : mm ≤ 4) (t tm : Tok) (news : List (Addr × Obj)) : Tel w 341 [.str wd t, .int mm tm] 10 100 news (RetLn IsB mm.toNat news) (fun _ => False) := by
  by_cases hn : isNum wd = true
  · exact kindsN w wd hok hn mm h1 h4 t tm news
  · have hn := Bool.eq_false_iff.mpr hn
    by_cases hi : wd = "INSTR"
    · subst hi; exact kindsI w mm h1 h4 t tm news
    · have hni : ("INSTR" == wd) = false := by simpa using fun e => hi (Eq.symm e)
      rcases (show mm = 1 ∨ mm = 2 ∨ mm = 3 ∨ mm = 4 by omega) with rfl | rfl | rfl | rfl
      · exact kindsT1 w wd hok hn hni t tm news
      · exact kindsT2 w wd hok hn hni t tm news
      · exact kindsT3 w wd hok hn hni t tm news
      · exact kindsT4 w wd hok hn hni t tm news
noncomputable def cLo (x : PySem.Str) : Int := if isLR x = true then 2 else if isMI x = true then 2 else 1
noncomputable def cHi (x : PySem.Str) : Int := if isLR x = true then 2 else if isMI x = true then 3 else 1
theorem cr_lh (x : PySem.Str) (k : Int) : crP x k = decide (cLo x ≤ k ∧ k ≤ cHi x) := by
  unfold crP cLo cHi
  split
  · rw [Bool.eq_iff_iff]; simp only [beq_iff_eq, decide_eq_true_eq]; omega
  · split
    · simp only [List.any_cons, List.any_nil, Bool.or_false]
      rw [Bool.eq_iff_iff]
      simp only [Bool.or_eq_true, beq_iff_eq, decide_eq_true_eq]
      omega
    · rw [Bool.eq_iff_iff]; simp only [beq_iff_eq, decide_eq_true_eq]; omega
theorem c_bounds (x : PySem.Str) : 1 ≤ cLo x ∧ cLo x ≤ cHi x ∧ cHi x ≤ 3 := by
  unfold cLo cHi
  split
  · decide
  · split <;> decide
abbrev twoI (x y : Int) (t u : Tok) (k : Nat) : Obj := { cls := .type "tuple", data := .seq #[.int x t, .int y u] k }
noncomputable def RetTwo (x y : Int) (news : List (Addr × Obj)) (v : Value) (n : List (Addr × Obj)) : Prop := ∃ a t u k, v = .ref a ∧ (∀ p ∈ news, p.1 < a) ∧ n = (a, twoI x y t u k) :: news
theorem lh_l {x : PySem.Str} (h : isLR x = true) : cLo x = 2 ∧ cHi x = 2 := by unfold cLo cHi; rw [if_pos h, if_pos h]; exact ⟨rfl, rfl⟩
theorem lh_m {x : PySem.Str} (h : isLR x = false) (h2 : isMI x = true) : cLo x = 2 ∧ cHi x = 3 := by unfold cLo cHi; rw [if_neg (by rw [h]; decide), if_pos h2, if_neg (by rw [h]; decide), if_pos h2]; exact ⟨rfl, rfl⟩
theorem lh_o {x : PySem.Str} (h : isLR x = false) (h2 : isMI x = false) : cLo x = 1 ∧ cHi x = 1 := by unfold cLo cHi; rw [if_neg (by rw [h]; decide), if_neg (by rw [h2]; decide), if_neg (by rw [h]; decide), if_neg (by rw [h2]; decide)]; exact ⟨rfl, rfl⟩
theorem two_cast {h₀ h : Heap} {L a : Addr} {x y x' y' : Int} {t u : Tok} {k : Nat} {l news : List (Addr × Obj)} (N : News h₀ L h ((a, { cls := .type "tuple", data := .seq #[.int x t, .int y u] k }) :: l)) (e : x' = x ∧ y' = y) (hs : ∀ p ∈ news, p ∈ l) : News h₀ L h ((a, twoI x' y' t u k) :: news) := by
  rw [e.1, e.2]; exact dropx N hs
/-- what the law's own reading hands back -/
noncomputable def DueOf : Res → Obj → Prop
  | .ok d, o => ∃ t v n, o = tok2 "told" t v n ∧ IsD d v
  | .bad k, o => ∃ t u n, o = tok2 "bad" t (.str k u) n
noncomputable def RetDue (r : Res) (news : List (Addr × Obj)) (v : Value) (n : List (Addr × Obj)) : Prop := ∃ a o, v = .ref a ∧ (∀ p ∈ news, p.1 ≠ a) ∧ DueOf r o ∧ n = (a, o) :: news
theorem due_ok {r : Res} {d : Dv} {t : Tok} {v : Value} {n : Nat} (e : r = .ok d) (h : IsD d v) : DueOf r (tok2 "told" t v n) := by subst e; exact ⟨t, v, n, rfl, h⟩
theorem due_int {r : Res} {x y : Int} {t u : Tok} {n : Nat} (e : r = .ok (.n x)) (h : x = y) : DueOf r (tok2 "told" t (.int y u) n) := by subst e h; exact ⟨t, _, n, rfl, u, rfl⟩
theorem due_str {r : Res} {x y : PySem.Str} {t u : Tok} {n : Nat} (e : r = .ok (.s x)) (h : x = y) : DueOf r (tok2 "told" t (.str y u) n) := by subst e h; exact ⟨t, _, n, rfl, u, rfl⟩
theorem due_bad {r : Res} {k : PySem.Str} {t u : Tok} {n : Nat} (e : r = .bad k) : DueOf r (tok2 "bad" t (.str k u) n) := by subst e; exact ⟨t, u, n, rfl⟩
set_option maxHeartbeats 8000000
theorem count_of (w : World) (wd : PySem.Str) (hok : PyData.strOk wd = true) (t : Tok) (news : List (Addr × Obj)) : Tel w 329 [.str wd t] 8 80 news (RetTwo (cLo wd) (cHi wd) news) (fun _ => False) := by
  refine Box.out ?_
  simp (disch :=
    k_dflt ((
    refine keepP ?_
    walk_at "my_go"
    intro lo mean mg mb dp un gd outer A₀ base h₀ L hp0 gn0 dr0 tk0 os0 Q E B F X N T hd0 hu0 hP hret hexcN hexc
    (try dsimp only at F)
    k_steps
    all_goals first | exact hret _ ((_, twoI _ _ _ _ _) :: news) _ _ (by k_asm) (two_cast (by k_asm) (lh_l (by assumption)) (by walk_at "my_subs")) ⟨_, _, _, _, rfl, allLt_mem _ (by walk_at "my_allLt"), rfl⟩ | exact hret _ ((_, twoI _ _ _ _ _) :: news) _ _ (by k_asm) (two_cast (by k_asm) (lh_m (by first | assumption | exact Bool.eq_false_iff.mpr (by assumption)) (by assumption)) (by walk_at "my_subs")) ⟨_, _, _, _, rfl, allLt_mem _ (by walk_at "my_allLt"), rfl⟩ | exact hret _ ((_, twoI _ _ _ _ _) :: news) _ _ (by k_asm) (two_cast (by k_asm) (lh_o (by first | assumption | exact Bool.eq_false_iff.mpr (by assumption)) (by first | assumption | exact Bool.eq_false_iff.mpr (by assumption))) (by walk_at "my_subs")) ⟨_, _, _, _, rfl, allLt_mem _ (by walk_at "my_allLt"), rfl⟩))) only [↓boxed]
theorem size_s (w : World) (x : PySem.Str) (l : Int) (t tl : Tok) (news : List (Addr × Obj)) : Tel w 355 [.str x t, .int l tl] 3 30 news (fun v n => ∃ t, v = .str "TM" t ∧ n = news) (fun _ => False) := by
  refine Box.out ?_
  simp (disch :=
    k_dflt ((
    refine keepP ?_
    walk_at "my_go"
    intro lo mean mg mb dp un gd outer A₀ base h₀ L hp0 gn0 dr0 tk0 os0 Q E B F X N T hd0 hu0 hP hret hexcN hexc
    (try dsimp only at F)
    k_steps
    all_goals first | exact hret _ news _ _ (by k_asm) (by walk_at "my_drop") ⟨_, rfl, rfl⟩))) only [↓boxed]
theorem size_ok (w : World) (x l : Int) (t tl : Tok) (news : List (Addr × Obj)) (h1 : l ≤ x) (h2 : x ≤ 255) : Tel w 355 [.int x t, .int l tl] 3 30 news (fun v n => v = .int x t ∧ n = news) (fun _ => False) := by
  refine Box.out ?_
  simp (disch :=
    k_dflt ((
    refine keepP ?_
    walk_at "my_go"
    intro lo mean mg mb dp un gd outer A₀ base h₀ L hp0 gn0 dr0 tk0 os0 Q E B F X N T hd0 hu0 hP hret hexcN hexc
    (try dsimp only at F)
    k_steps
    all_goals first | exact hret _ news _ _ (by k_asm) (by walk_at "my_drop") ⟨rfl, rfl⟩))) only [↓boxed]
theorem size_bad (w : World) (x l : Int) (t tl : Tok) (news : List (Addr × Obj)) (h1 : x < l ∨ 255 < x) : Tel w 355 [.int x t, .int l tl] 3 30 news (fun v n => ∃ t, v = .str "FC" t ∧ n = news) (fun _ => False) := by
  refine Box.out ?_
  simp (disch :=
    k_dflt ((
    refine keepP ?_
    walk_at "my_go"
    intro lo mean mg mb dp un gd outer A₀ base h₀ L hp0 gn0 dr0 tk0 os0 Q E B F X N T hd0 hu0 hP hret hexcN hexc
    (try dsimp only at F)
    k_steps
    all_goals first | exact hret _ news _ _ (by k_asm) (by walk_at "my_drop") ⟨_, rfl, rfl⟩))) only [↓boxed]
end
section
theorem sgn_val (x : Int) : b2i (decide (0 < x)) - b2i (decide (x < 0)) = if x = 0 then 0 else if 0 < x then 1 else -1 := by
  rcases Int.lt_trichotomy x 0 with h | h | h
  · rw [decide_eq_false (by omega : ¬ 0 < x), decide_eq_true h, if_neg (by omega), if_neg (by omega)]; rfl
  · subst h; rfl
  · rw [decide_eq_true h, decide_eq_false (by omega : ¬ x < 0), if_neg (by omega), if_pos (by omega)]; rfl
theorem numR_sgn (x : Int) : numR "SGN" x = .ok (.n (if x = 0 then 0 else if 0 < x then 1 else -1)) := by rw [← sgn_val]; exact if_pos rfl
theorem numR_abs (x : Int) : numR "ABS" x = .ok (.n (if x < 0 then -x else x)) := (if_neg (by decide +kernel)).trans (if_pos rfl)
theorem numR_str (x : Int) : numR "STR$" x = .ok (.s (ntext x)) := (if_neg (by decide +kernel)).trans ((if_neg (by decide +kernel)).trans (if_pos rfl))
theorem numR_chr (x : Int) : numR "CHR$" x = if 0 ≤ x ∧ x ≤ 255 then .ok (.s ⟨#[x.toNat]⟩) else .bad "FC" := (if_neg (by decide +kernel)).trans ((if_neg (by decide +kernel)).trans ((if_neg (by decide +kernel)).trans (if_pos rfl)))
theorem numR_rnd (x : Int) : numR "RND" x = .ok (.n (if 0 < x then Int.fmod 41 x else 90)) := (if_neg (by decide +kernel)).trans ((if_neg (by decide +kernel)).trans ((if_neg (by decide +kernel)).trans (if_neg (by decide +kernel))))
set_option maxHeartbeats 8000000
theorem lnum_s (w : World) (wd y : PySem.Str) (t t1 : Tok) (news : List (Addr × Obj)) : Tel w 362 [.str wd t, .str y t1] 5 50 news (RetDue (.bad "TM") news) (fun _ => False) := by
  refine Box.out ?_
  simp (disch :=
    k_dflt ((
    refine keepP ?_
    walk_at "my_go"
    intro lo mean mg mb dp un gd outer A₀ base h₀ L hp0 gn0 dr0 tk0 os0 Q E B F X N T hd0 hu0 hP hret hexcN hexc
    (try dsimp only at F)
    k_steps
    all_goals exact hret _ ((_, tok2 _ _ _ _) :: news) _ _ (by k_asm) (dropx (by k_asm) (by walk_at "my_subs")) ⟨_, _, rfl, fun p hp => Nat.ne_of_lt (allLt_mem _ (by walk_at "my_allLt") p hp), due_bad rfl, rfl⟩))) only [↓boxed]
theorem lnum_sgn (w : World) (x : Int) (t t1 : Tok) (news : List (Addr × Obj)) (h1 : -32767 ≤ x) (h2 : x ≤ 32767)  : Tel w 362 [.str "SGN" t, .int x t1] 5 50 news (RetDue (numR "SGN" x) news) (fun _ => False) := by
  refine Box.out ?_
  simp (disch :=
    k_dflt ((
    refine keepP ?_
    walk_at "my_go"
    intro lo mean mg mb dp un gd outer A₀ base h₀ L hp0 gn0 dr0 tk0 os0 Q E B F X N T hd0 hu0 hP hret hexcN hexc
    (try dsimp only at F)
    (repeat' (first | (k_unfold; (try dsimp only)) | (k_end; kc_close) | ((with_reducible show wpAny _ _ (isTrue _ _ _) _ _ _); with_reducible ((k_here; first | (with_reducible refine' cmpNI ?F ?e ?v ?_ ?m ?k ?x ?d; k_dflt (tm_at "c1"; (case m => exact rfl); tm_at "c2")) | (with_reducible refine' cmpNN ?F ?e ?v ?v' ?_ ?m ?k ?x ?d ?x' ?d'; k_dflt (tm_at "c1"; tm_at "c3"; (case m => exact rfl); tm_at "c2"))))) | walk1 | (dsimp only; walk1) | (leave1; (try dsimp only)) | fail "no step"))
    all_goals exact hret _ ((_, tok2 _ _ _ _) :: news) _ _ (by k_asm) (dropx (by k_asm) (by walk_at "my_subs")) ⟨_, _, rfl, fun p hp => Nat.ne_of_lt (allLt_mem _ (by walk_at "my_allLt") p hp), due_int (numR_sgn x) (by (first | rfl | (rw [if_pos (by omega)]; done) | (rw [if_neg (by omega)]; done) | (rw [if_neg (by omega), if_pos (by omega)]; done) | (rw [if_neg (by omega), if_neg (by omega)]; done) | (rw [if_neg (by omega), if_neg (by omega)]; rfl) | (rw [if_neg (by omega)]; rfl) | (rw [if_pos (by omega)]; rfl))), rfl⟩))) only [↓boxed]
theorem lnum_abs (w : World) (x : Int) (t t1 : Tok) (news : List (Addr × Obj)) (h1 : -32767 ≤ x) (h2 : x ≤ 32767)  : Tel w 362 [.str "ABS" t, .int x t1] 5 50 news (RetDue (numR "ABS" x) news) (fun _ => False) := by
  refine Box.out ?_
  simp (disch :=
    k_dflt ((
    refine keepP ?_
    walk_at "my_go"
    intro lo mean mg mb dp un gd outer A₀ base h₀ L hp0 gn0 dr0 tk0 os0 Q E B F X N T hd0 hu0 hP hret hexcN hexc
    (try dsimp only at F)
    k_steps
    all_goals exact hret _ ((_, tok2 _ _ _ _) :: news) _ _ (by k_asm) (dropx (by k_asm) (by walk_at "my_subs")) ⟨_, _, rfl, fun p hp => Nat.ne_of_lt (allLt_mem _ (by walk_at "my_allLt") p hp), due_int (numR_abs x) rfl, rfl⟩))) only [↓boxed]
theorem lnum_str (w : World) (x : Int) (t t1 : Tok) (news : List (Addr × Obj)) (h1 : -32767 ≤ x) (h2 : x ≤ 32767)  : Tel w 362 [.str "STR$" t, .int x t1] 5 50 news (RetDue (numR "STR$" x) news) (fun _ => False) := by
  refine Box.out ?_
  simp (disch :=
    k_dflt ((
    refine keepP ?_
    walk_at "my_go"
    intro lo mean mg mb dp un gd outer A₀ base h₀ L hp0 gn0 dr0 tk0 os0 Q E B F X N T hd0 hu0 hP hret hexcN hexc
    (try dsimp only at F)
    (repeat' (first | (k_unfold; (try dsimp only)) | (k_end; kc_close) | ((with_reducible show wpAny _ _ (isTrue _ _ _) _ _ _); with_reducible ((k_here; first | (with_reducible refine' cmpNI ?F ?e ?v ?_ ?m ?k ?x ?d; k_dflt (tm_at "c1"; (case m => exact rfl); tm_at "c2")) | (with_reducible refine' cmpNN ?F ?e ?v ?v' ?_ ?m ?k ?x ?d ?x' ?d'; k_dflt (tm_at "c1"; tm_at "c3"; (case m => exact rfl); tm_at "c2"))))) | walk1 | (dsimp only; walk1) | (leave1; (try dsimp only)) | fail "no step"))
    all_goals exact hret _ ((_, tok2 _ _ _ _) :: news) _ _ (by k_asm) (dropx (by k_asm) (by walk_at "my_subs")) ⟨_, _, rfl, fun p hp => Nat.ne_of_lt (allLt_mem _ (by walk_at "my_allLt") p hp), due_str (numR_str x) (by unfold ntext; (first | rfl | (rw [if_pos (by omega)]; done) | (rw [if_neg (by omega)]; done) | (rw [if_neg (by omega), if_pos (by omega)]; done) | (rw [if_neg (by omega), if_neg (by omega)]; done) | (rw [if_neg (by omega), if_neg (by omega)]; rfl) | (rw [if_neg (by omega)]; rfl) | (rw [if_pos (by omega)]; rfl))), rfl⟩))) only [↓boxed]
theorem lnum_chr (w : World) (x : Int) (t t1 : Tok) (news : List (Addr × Obj)) (h1 : -32767 ≤ x) (h2 : x ≤ 32767) (h3 : 0 ≤ x) (h4 : x ≤ 255)  : Tel w 362 [.str "CHR$" t, .int x t1] 5 50 news (RetDue (numR "CHR$" x) news) (fun _ => False) := by
  refine Box.out ?_
  simp (disch :=
    k_dflt ((
    refine keepP ?_
    walk_at "my_go"
    intro lo mean mg mb dp un gd outer A₀ base h₀ L hp0 gn0 dr0 tk0 os0 Q E B F X N T hd0 hu0 hP hret hexcN hexc
    (try dsimp only at F)
    k_steps
    all_goals exact hret _ ((_, tok2 _ _ _ _) :: news) _ _ (by k_asm) (dropx (by k_asm) (by walk_at "my_subs")) ⟨_, _, rfl, fun p hp => Nat.ne_of_lt (allLt_mem _ (by walk_at "my_allLt") p hp), due_str ((numR_chr x).trans (if_pos ⟨h3, h4⟩)) rfl, rfl⟩))) only [↓boxed]
theorem lnum_chrb (w : World) (x : Int) (t t1 : Tok) (news : List (Addr × Obj)) (h1 : -32767 ≤ x) (h2 : x ≤ 32767) (h3 : x < 0 ∨ 255 < x)  : Tel w 362 [.str "CHR$" t, .int x t1] 5 50 news (RetDue (numR "CHR$" x) news) (fun _ => False) := by
  refine Box.out ?_
  simp (disch :=
    k_dflt ((
    refine keepP ?_
    walk_at "my_go"
    intro lo mean mg mb dp un gd outer A₀ base h₀ L hp0 gn0 dr0 tk0 os0 Q E B F X N T hd0 hu0 hP hret hexcN hexc
    (try dsimp only at F)
    k_steps
    all_goals exact hret _ ((_, tok2 _ _ _ _) :: news) _ _ (by k_asm) (dropx (by k_asm) (by walk_at "my_subs")) ⟨_, _, rfl, fun p hp => Nat.ne_of_lt (allLt_mem _ (by walk_at "my_allLt") p hp), due_bad ((numR_chr x).trans (if_neg (by omega))), rfl⟩))) only [↓boxed]
theorem lnum_rnd (w : World) (x : Int) (t t1 : Tok) (news : List (Addr × Obj)) (h1 : -32767 ≤ x) (h2 : x ≤ 32767)  : Tel w 362 [.str "RND" t, .int x t1] 5 50 news (RetDue (numR "RND" x) news) (fun _ => False) := by
  refine Box.out ?_
  simp (disch :=
    k_dflt ((
    refine keepP ?_
    walk_at "my_go"
    intro lo mean mg mb dp un gd outer A₀ base h₀ L hp0 gn0 dr0 tk0 os0 Q E B F X N T hd0 hu0 hP hret hexcN hexc
    (try dsimp only at F)
    (repeat' (first | (k_unfold; (try dsimp only)) | (k_end; kc_close) | ((with_reducible show wpAny _ _ (isTrue _ _ _) _ _ _); with_reducible ((k_here; first | (with_reducible refine' cmpNI ?F ?e ?v ?_ ?m ?k ?x ?d; k_dflt (tm_at "c1"; (case m => exact rfl); tm_at "c2")) | (with_reducible refine' cmpNN ?F ?e ?v ?v' ?_ ?m ?k ?x ?d ?x' ?d'; k_dflt (tm_at "c1"; tm_at "c3"; (case m => exact rfl); tm_at "c2"))))) | walk1 | (dsimp only; walk1) | (leave1; (try dsimp only)) | fail "no step"))
    all_goals exact hret _ ((_, tok2 _ _ _ _) :: news) _ _ (by k_asm) (dropx (by k_asm) (by walk_at "my_subs")) ⟨_, _, rfl, fun p hp => Nat.ne_of_lt (allLt_mem _ (by walk_at "my_allLt") p hp), due_int (numR_rnd x) (by (first | rfl | (rw [if_pos (by omega)]; done) | (rw [if_neg (by omega)]; done) | (rw [if_neg (by omega), if_pos (by omega)]; done) | (rw [if_neg (by omega), if_neg (by omega)]; done) | (rw [if_neg (by omega), if_neg (by omega)]; rfl) | (rw [if_neg (by omega)]; rfl) | (rw [if_pos (by omega)]; rfl))), rfl⟩))) only [↓boxed]
theorem lnum_all (w : World) (wd : PySem.Str) (hw : wd = "SGN" ∨ wd = "ABS" ∨ wd = "STR$" ∨ wd = "CHR$" ∨ wd = "RND") (d : Dv) (v : Value) (t : Tok) (news : List (Addr × Obj)) (hok : d.Ok) (hv : IsD d v) :
    Tel w 362 [.str wd t, v] 5 50 news (RetDue (numRes wd d) news) (fun _ => False) := by
  cases d with
  | s y =>
    obtain ⟨ty, rfl⟩ := hv
    exact lnum_s w wd y t ty news
  | n x =>
    obtain ⟨tx, rfl⟩ := hv
    obtain ⟨o1, o2⟩ := hok
    rcases hw with rfl | rfl | rfl | rfl | rfl
    · exact lnum_sgn w x t tx news o1 o2
    · exact lnum_abs w x t tx news o1 o2
    · exact lnum_str w x t tx news o1 o2
    · by_cases h : 0 ≤ x ∧ x ≤ 255
      · exact lnum_chr w x t tx news o1 o2 h.1 h.2
      · exact lnum_chrb w x t tx news o1 o2 (by omega)
    · exact lnum_rnd w x t tx news o1 o2
end
section
section
variable {prog : Program} {w : World} {A : Around} {E : Value → Shared → Prop} {s : Shared} {env : Env} {h₀ : Heap} {target : PySem.Expr} {body : List Stmt} {Q : Flow → Shared → Prop}
theorem allObj_mono {ws : List (Addr × String)} {k k' : List (Addr × Obj) → Prop} (h : ∀ its, k its → k' its) (x : AllObj ws k) : AllObj ws k' := by
  induction ws generalizing k k' with
  | nil => exact h _ x
  | cons w r ih => exact fun o ho => ih (fun its y => h _ y) (x o ho)
theorem unrPost_mono {L : Addr} {s₁ : Shared} {its : List (Addr × Obj)} {rest rest' : (PySem.Str → Option Value) → List (Addr × Obj) → Prop} (h : ∀ m n, rest m n → rest' m n) (f : Flow) (s₂ : Shared) (x : UnrPostW h₀ L s₁ its rest Q f s₂) : UnrPostW h₀ L s₁ its rest' Q f s₂ := by
  cases f with
  | ret v => exact x
  | brk => exact x
  | next =>
    obtain ⟨h', tk, m', news', e, F, N, a, r⟩ := x
    exact ⟨h', tk, m', news', e, F, N, a, h _ _ r⟩
  | cont =>
    obtain ⟨h', tk, m', news', e, F, N, a, r⟩ := x
    exact ⟨h', tk, m', news', e, F, N, a, h _ _ r⟩
theorem items_ind {hp : Heap} {g : Array GenState} {dr : Drawn} {tk0 : Nat} {os : OsState} {ws : List (Addr × String)} {keep : List (Addr × Obj)} {vs : List Value} (J : Nat → (PySem.Str → Option Value) → List (Addr × Obj) → Prop)
    (step : ∀ i v m news, vs[i]? = some v → J i m news → ∀ T t h tk, IsTup h T #[.int (i : Int) t, v] → Fr h₀ env.locals h m → AllObj ws (fun its => News h₀ env.locals h (its ++ news) →
      wpAny (model prog w) A (assign target env (.ref T)) (fun _ s₂ => wpAny (model prog w) A (execs body env) (UnrPostW h₀ env.locals ⟨h, g, dr, tk, os⟩ its (fun m' n' => SubL keep n' ∧ J (i + 1) m' n') Q) E s₂) E ⟨h, g, dr, tk, os⟩))
    (fin : ∀ m news, J vs.length m news → ∀ h tk, Fr h₀ env.locals h m → News h₀ env.locals h news → Q .next ⟨h, g, dr, tk, os⟩) :
    ∀ (r done : List Value) (m : PySem.Str → Option Value) (news : List (Addr × Obj)), done ++ r = vs → J done.length m news → ItemsRest prog w A E h₀ env target body Q ⟨hp, g, dr, tk0, os⟩ ws keep (enumItems done.length r) m news := by
  intro r
  induction r with
  | nil =>
    intro done m news hr hJ
    have e : done = vs := by simpa using hr
    subst e
    exact ItemsRest.zero fun h tk F N => fin m news hJ h tk F N
  | cons v r ih =>
    intro done m news hr hJ
    refine ItemsRest.pair fun T t h tk hT F => ?_
    have hv : vs[done.length]? = some v := by rw [← hr, List.getElem?_append_right (Nat.le_refl _)]; simp
    refine allObj_mono (fun its x N => wpAny_mono (x N) (fun _ s₂ y => wpAny_mono y (fun f s₃ z => unrPost_mono (fun m' n' q => ⟨q.1, ?_⟩) f s₃ z) fun _ _ q => q) fun _ _ q => q) (step done.length v m news hv hJ T t h tk hT F)
    have := ih (done ++ [v]) m' n' (by rw [List.append_assoc]; exact hr) (by rw [List.length_append]; exact q.2)
    rw [List.length_append] at this
    exact this
end
theorem TokL.app {news : List (Addr × Obj)} {rs ws : List Value} {ts us : List Tk} (T : TokL news rs ts) (U : TokL news ws us) (h : rs.length = ts.length) : TokL news (rs ++ ws) (ts ++ us) := fun i tk e => by
  by_cases hi : i < ts.length
  · rw [List.getElem?_append_left hi] at e
    obtain ⟨r, h1, h2⟩ := T i tk e
    exact ⟨r, by rw [List.getElem?_append_left (h ▸ hi)]; exact h1, h2⟩
  · rw [List.getElem?_append_right (Nat.le_of_not_lt hi)] at e
    obtain ⟨r, h1, h2⟩ := U _ tk e
    exact ⟨r, by rw [List.getElem?_append_right (h ▸ Nat.le_of_not_lt hi), h]; exact h1, h2⟩
theorem TokL.one {news : List (Addr × Obj)} {a : Addr} {k : PySem.Str} {d : Dv} {t : Tok} {v : Value} {n : Nat} (h : (a, tok2 k t v n) ∈ news) (i : IsD d v) : TokL news [.ref a] [mkT k d] := fun j tk e => by
  cases j with
  | zero => simp at e; subst e; exact ⟨.ref a, rfl, a, t, n, v, rfl, i, h⟩
  | succ j => simp at e
theorem TokL.two {news : List (Addr × Obj)} {r1 r2 : Value} {t1 t2 : Tk} (h : TokAt news r1 t1) (i : TokAt news r2 t2) : TokL news [r1, r2] [t1, t2] := fun j tk e => by
  match j with
  | 0 => simp at e; subst e; exact ⟨r1, rfl, h⟩
  | 1 => simp at e; subst e; exact ⟨r2, rfl, i⟩
  | j + 2 => simp at e
noncomputable def sepT (i : Nat) : List Tk := if 0 < i then [mkT "sign" (.s ",")] else []
noncomputable def preT (wd : PySem.Str) (ds : List Dv) : Nat → List Tk
  | 0 => [mkT "word" (.s wd), mkT "sign" (.s "(")]
  | i + 1 => preT wd ds i ++ (sepT i ++ toksOf (ds.getD i (.n 0)))
theorem preT_all (wd : PySem.Str) (ds : List Dv) (h1 : 1 ≤ ds.length) (h4 : ds.length ≤ 4) : preT wd ds ds.length ++ [mkT "sign" (.s ")")] = lawToks wd ds := by
  match ds, h1, h4 with
  | [a], _, _ => simp [preT, sepT, lawToks, argToks]
  | [a, b], _, _ => simp [preT, sepT, lawToks, argToks]
  | [a, b, c], _, _ => simp [preT, sepT, lawToks, argToks]
  | [a, b, c, d], _, _ => simp [preT, sepT, lawToks, argToks]
  | [], h, _ => simp at h
  | _ :: _ :: _ :: _ :: _ :: _, _, h => simp at h
noncomputable def TokJ (wd : PySem.Str) (ds : List Dv) (l I : Addr) (lo : Obj) (news : List (Addr × Obj)) (i : Nat) (m : PySem.Str → Option Value) (n : List (Addr × Obj)) : Prop :=
  ∃ (fa : Addr) (vs : List Value) (k : Nat) (mo : PySem.Str → Option Value), m = (fun y => if y = Str.ofString "found" then some (.ref fa) else mo y) ∧ (fa, listObj vs k) ∈ n ∧ (l, lo) ∈ n ∧ (∀ p ∈ news, p ∈ n) ∧ (∀ p ∈ n, p.1 ≠ I ∧ p.1 ≠ I + 1) ∧ TokL n vs (preT wd ds i) ∧ vs.length = (preT wd ds i).length
theorem toks_len (d : Dv) : (toksOf d).length ≤ 2 := by
  cases d with
  | s x => simp [toksOf]
  | n x => by_cases h : x < 0 <;> simp [toksOf, h]
theorem preT_len (wd : PySem.Str) (ds : List Dv) : ∀ i, (preT wd ds i).length ≤ 2 + 3 * i
  | 0 => by simp [preT]
  | i + 1 => by
    have := preT_len wd ds i
    have h2 := toks_len (ds.getD i (.n 0))
    have h3 : (sepT i).length ≤ 1 := by unfold sepT; split <;> simp
    simp only [preT, List.length_append]
    omega
end
section
set_option maxHeartbeats 16000000
section
noncomputable def digL (x : PySem.Str) : Nat → Int → Int → Int
  | 0, _, n => n
  | j + 1, i, n => if DT (Txt.item x i) = false then digL x j (i + 1) (10 * n + Txt.find (Str.ofString "0123456789") (Txt.item x i)) else n
theorem dl_stop {x : PySem.Str} {j : Nat} {i n : Int} (h : DT (Txt.item x i) = true) : digL x (j + 1) i n = n := if_neg (by rw [h]; decide)
theorem dl_go {x : PySem.Str} {j : Nat} {i n : Int} (h : DT (Txt.item x i) = false) : digL x (j + 1) i n = digL x j (i + 1) (10 * n + Txt.find (Str.ofString "0123456789") (Txt.item x i)) := if_pos h
theorem dropT {h₀ h : Heap} {L : Addr} {p : Addr × Obj} {news : List (Addr × Obj)} (N : News h₀ L h (p :: news)) : News h₀ L h news := fun q hq => N q (.tail _ hq)
theorem ldig {w : World} {sco : Scope} {test : Expr} {body : List Stmt} {lo : List PySem.Str} {mean : ExcName → Option Value} {mg mb : PySem.Str → Option Value} {dp un : Nat} {gd : Option (List Code)} {outer : List Env} {A₀ : Around} {base h₀ : Heap} {L : Addr} {ccd : Value} {Q : Flow → Shared → Prop} {E : Value → Shared → Prop} {x : PySem.Str} {t : Tok} {vb : Value} {news : List (Addr × Obj)}
   (hsco : sco = scopeAt w.params 369) (ht : test = tstAt (bodyAt w.params 369) 3) (hb : body = bdyAt (bodyAt w.params 369) 3)
   (B : Below A₀ base outer h₀) (X : (hd.heap_1 w.params).In h₀) (T : Top viewQ lo mean mg mb h₀) (hd0 : dp + 5 < 451) (hu0 : un + 20 < 903)
   (hP : PassesOwn (model PySem.Challenge.rw_pq1455_02.row.prog w) (ktrTop dp un gd (Str.ofString "_law_val") sco L 369 ccd [] outer) (envOf (Str.ofString "_law_val") sco L 369 ccd) E) (hlx : x.length ≤ 100) :
   ∀ (j : Nat) (i n : Int) (ti tn : Tok) (hp0 : Heap) (gn0 : Array GenState) (dr0 : Drawn) (tk0 : Nat) (os0 : OsState) (m : PySem.Str → Option Value), 0 ≤ i → i + j = x.length → Fr h₀ L hp0 m → News h₀ L hp0 news → m (Str.ofString "text") = some (.str x t) → m (Str.ofString "place") = some (.int i ti) → m (Str.ofString "size") = some (.int n tn) → m (Str.ofString "is_below") = some vb →
    (∀ tn' h' tk' {m' : PySem.Str → Option Value}, Fr h₀ L h' m' → News h₀ L h' news → m' (Str.ofString "is_below") = some vb → m' (Str.ofString "size") = some (.int (digL x j i n) tn') → Q .next ⟨h', gn0, dr0, tk', os0⟩) →
    WhlRest PySem.Challenge.rw_pq1455_02.row.prog w (ktrTop dp un gd (Str.ofString "_law_val") sco L 369 ccd [] outer) E (envOf (Str.ofString "_law_val") sco L 369 ccd) test body [] Q 0 ⟨hp0, gn0, dr0, tk0, os0⟩ := by
  subst hsco ht hb
  (rename Frag.In _ _ => X9; revert X9; k_fill; intro X9)
  conv in (occs := *) tstAt _ _ => all_goals whnf
  conv in (occs := *) bdyAt _ _ => all_goals whnf
  conv in (occs := *) scopeAt _ _ => all_goals whnf
  intro j
  induction j with
  | zero =>
    intro i n ti tn hp0 gn0 dr0 tk0 os0 m hi hij F N htx hat hfo hib hQ
    show WhlRest _ _ _ _ _ _ _ _ _ 1 _
    (repeat' (first | (k_unfold; (try dsimp only)) | (k_end; kc_close) | ((with_reducible show WhlPost _ _ _ _ _ _ _ _ _ _ _ _); with_reducible (((dsimp only [WhlPost]); refine held ?_))) | ((with_reducible show wpAny _ _ (eval (Expr.Call _ _ _ _) _) _ _ _); with_reducible ((first | refine Call_ ?_ | with_reducible refine Call_ ?_ | k_dflt (refine Call_ ?_)))) | ((with_reducible show wpAny _ _ (call (Value.builtin _) _) _ _ _); first | with_reducible ((refine index_or (by rfl) (fun _ h9 => absurd (Eq.trans (Eq.symm (by assumption)) h9) Bool.false_ne_true) ?_; intro _ _))) | walk1 | (dsimp only; walk1) | (leave1; (try dsimp only)) | fail "no step"))
    all_goals exact hQ _ _ _ (by k_asm) (by k_asm) hib hfo
  | succ j ih =>
    intro i n ti tn hp0 gn0 dr0 tk0 os0 m hi hij F N htx hat hfo hib hQ
    show WhlRest _ _ _ _ _ _ _ _ _ 1 _
    (repeat' (first | (k_unfold; (try dsimp only)) | (k_end; kc_close) | ((with_reducible show WhlPost _ _ _ _ _ _ _ _ _ _ _ _); with_reducible (((dsimp only [WhlPost]); refine held ?_))) | ((with_reducible show wpAny _ _ (eval (Expr.Call _ _ _ _) _) _ _ _); with_reducible ((first | refine Call_ ?_ | with_reducible refine Call_ ?_ | k_dflt (refine Call_ ?_)))) | ((with_reducible show wpAny _ _ (call (Value.builtin _) _) _ _ _); first | with_reducible ((refine index_or (by rfl) (fun _ h9 => absurd (Eq.trans (Eq.symm (by assumption)) h9) Bool.false_ne_true) ?_; intro _ _))) | walk1 | (dsimp only; walk1) | (leave1; (try dsimp only)) | fail "no step"))
    · rw [dl_stop (by assumption)] at hQ
      exact hQ _ _ _ (by k_asm) (by k_asm) hib hfo
    · unfold Held
      rw [dl_go (by assumption)] at hQ
      refine' ih _ _ _ _ _ _ _ _ _ _ ?h1 ?h2 ?h3 ?h4 ?h5 ?h6 ?h7 ?h8 (fun tn' h' tk' m' F N a b => hQ tn' h' tk' F N a b)
      case h3 => k_asm
      case h4 => first | k_asm | exact dropT (by k_asm)
      case h5 => ((try dsimp only); tm_at "lk")
      case h6 => ((try dsimp only); tm_at "lk")
      case h7 => ((try dsimp only); tm_at "lk")
      case h8 => ((try dsimp only); tm_at "lk")
      case h1 => omega
      case h2 => omega
end
theorem dlv {m : PySem.Str → Option Value} {k : PySem.Str} {a b : Int} {t : Tok} (h : m k = some (.int a t)) (e : a = b) : m k = some (.int b t) := e ▸ h
theorem lval0 (w : World) (t : Tok) (news : List (Addr × Obj)) : Tel w 369 [.str "" t] 20 200 news (RetDue (.ok (.n (0))) news) (fun _ => False) := by
  refine Box.out ?_
  simp (disch :=
    k_dflt ((
    refine keepP ?_
    walk_at "my_go"
    intro lo mean mg mb dp un gd outer A₀ base h₀ L hp0 gn0 dr0 tk0 os0 Q E B F X N T hd0 hu0 hP hret hexcN hexc
    (try dsimp only at F)
    (repeat' (first | (k_unfold; (try dsimp only)) | (k_end; kc_close) | ((with_reducible show wpAny _ _ (exec (Stmt.While _ _ _ _) _) _ _ _); with_reducible ((k_here; (with_reducible show wpAny _ _ (exec (Stmt.While (Expr.BoolOp _ [_, Expr.Compare _ _ [Expr.Constant _ _ _] _] _) _ _ _) _) _ _ _); refine held ?_))) | ((with_reducible show (if _ then _ else _)); with_reducible ((k_closed; first | refine ite_pos (by decide +kernel) ?_ | refine ite_neg (by decide +kernel) ?_))) | walk1 | (dsimp only; walk1) | (leave1; (try dsimp only)) | fail "no step"))
    unfold Held
    refine whl_start 0 ?_
    refine' ldig (x := "") (by kernel_rfl) (by kernel_rfl) (by kernel_rfl) B X T ?_ ?_ hP (by decide +kernel) 0 _ 0 _ _ _ _ _ _ _ _ ?h1 ?h2 ?h3 ?h4 ?h5 ?h6 ?h7 ?h8 ?hQ
    case h3 => k_asm
    case h4 => k_asm
    case h5 => ((try dsimp only); tm_at "lk")
    case h6 => ((try dsimp only); tm_at "lk")
    case h7 => ((try dsimp only); tm_at "lk")
    case h8 => ((try dsimp only); tm_at "lk")
    case h1 => decide +kernel
    case h2 => decide +kernel
    case hQ =>
      intro tn' h' tk' m' F N hb hf
      replace hf := dlv (b := 0) hf (by decide +kernel)
      (try dsimp only)
      (repeat' (first | (k_unfold; (try dsimp only)) | (k_end; kc_close) | ((with_reducible show wpAny _ _ (exec (Stmt.While _ _ _ _) _) _ _ _); with_reducible ((k_here; (with_reducible show wpAny _ _ (exec (Stmt.While (Expr.BoolOp _ [_, Expr.Compare _ _ [Expr.Constant _ _ _] _] _) _ _ _) _) _ _ _); refine held ?_))) | ((with_reducible show (if _ then _ else _)); with_reducible ((k_closed; first | refine ite_pos (by decide +kernel) ?_ | refine ite_neg (by decide +kernel) ?_))) | walk1 | (dsimp only; walk1) | (leave1; (try dsimp only)) | fail "no step"))
      all_goals exact hret _ ((_, tok2 _ _ _ _) :: news) _ _ (by k_asm) (dropx (by k_asm) (by walk_at "my_subs")) ⟨_, _, rfl, fun p hp => Nat.ne_of_lt (allLt_mem _ (by walk_at "my_allLt") p hp), due_int rfl (by decide +kernel), rfl⟩
    all_goals omega))) only [↓boxed]
theorem lval1 (w : World) (t : Tok) (news : List (Addr × Obj)) : Tel w 369 [.str "abab" t] 20 200 news (RetDue (.ok (.n (0))) news) (fun _ => False) := by
  refine Box.out ?_
  simp (disch :=
    k_dflt ((
    refine keepP ?_
    walk_at "my_go"
    intro lo mean mg mb dp un gd outer A₀ base h₀ L hp0 gn0 dr0 tk0 os0 Q E B F X N T hd0 hu0 hP hret hexcN hexc
    (try dsimp only at F)
    (repeat' (first | (k_unfold; (try dsimp only)) | (k_end; kc_close) | ((with_reducible show wpAny _ _ (exec (Stmt.While _ _ _ _) _) _ _ _); with_reducible ((k_here; (with_reducible show wpAny _ _ (exec (Stmt.While (Expr.BoolOp _ [_, Expr.Compare _ _ [Expr.Constant _ _ _] _] _) _ _ _) _) _ _ _); refine held ?_))) | ((with_reducible show (if _ then _ else _)); with_reducible ((k_closed; first | refine ite_pos (by decide +kernel) ?_ | refine ite_neg (by decide +kernel) ?_))) | walk1 | (dsimp only; walk1) | (leave1; (try dsimp only)) | fail "no step"))
    unfold Held
    refine whl_start 0 ?_
    refine' ldig (x := "abab") (by kernel_rfl) (by kernel_rfl) (by kernel_rfl) B X T ?_ ?_ hP (by decide +kernel) 4 _ 0 _ _ _ _ _ _ _ _ ?h1 ?h2 ?h3 ?h4 ?h5 ?h6 ?h7 ?h8 ?hQ
    case h3 => k_asm
    case h4 => k_asm
    case h5 => ((try dsimp only); tm_at "lk")
    case h6 => ((try dsimp only); tm_at "lk")
    case h7 => ((try dsimp only); tm_at "lk")
    case h8 => ((try dsimp only); tm_at "lk")
    case h1 => decide +kernel
    case h2 => decide +kernel
    case hQ =>
      intro tn' h' tk' m' F N hb hf
      replace hf := dlv (b := 0) hf (by decide +kernel)
      (try dsimp only)
      (repeat' (first | (k_unfold; (try dsimp only)) | (k_end; kc_close) | ((with_reducible show wpAny _ _ (exec (Stmt.While _ _ _ _) _) _ _ _); with_reducible ((k_here; (with_reducible show wpAny _ _ (exec (Stmt.While (Expr.BoolOp _ [_, Expr.Compare _ _ [Expr.Constant _ _ _] _] _) _ _ _) _) _ _ _); refine held ?_))) | ((with_reducible show (if _ then _ else _)); with_reducible ((k_closed; first | refine ite_pos (by decide +kernel) ?_ | refine ite_neg (by decide +kernel) ?_))) | walk1 | (dsimp only; walk1) | (leave1; (try dsimp only)) | fail "no step"))
      all_goals exact hret _ ((_, tok2 _ _ _ _) :: news) _ _ (by k_asm) (dropx (by k_asm) (by walk_at "my_subs")) ⟨_, _, rfl, fun p hp => Nat.ne_of_lt (allLt_mem _ (by walk_at "my_allLt") p hp), due_int rfl (by decide +kernel), rfl⟩
    all_goals omega))) only [↓boxed]
theorem lval2 (w : World) (t : Tok) (news : List (Addr × Obj)) : Tel w 369 [.str "b" t] 20 200 news (RetDue (.ok (.n (0))) news) (fun _ => False) := by
  refine Box.out ?_
  simp (disch :=
    k_dflt ((
    refine keepP ?_
    walk_at "my_go"
    intro lo mean mg mb dp un gd outer A₀ base h₀ L hp0 gn0 dr0 tk0 os0 Q E B F X N T hd0 hu0 hP hret hexcN hexc
    (try dsimp only at F)
    (repeat' (first | (k_unfold; (try dsimp only)) | (k_end; kc_close) | ((with_reducible show wpAny _ _ (exec (Stmt.While _ _ _ _) _) _ _ _); with_reducible ((k_here; (with_reducible show wpAny _ _ (exec (Stmt.While (Expr.BoolOp _ [_, Expr.Compare _ _ [Expr.Constant _ _ _] _] _) _ _ _) _) _ _ _); refine held ?_))) | ((with_reducible show (if _ then _ else _)); with_reducible ((k_closed; first | refine ite_pos (by decide +kernel) ?_ | refine ite_neg (by decide +kernel) ?_))) | walk1 | (dsimp only; walk1) | (leave1; (try dsimp only)) | fail "no step"))
    unfold Held
    refine whl_start 0 ?_
    refine' ldig (x := "b") (by kernel_rfl) (by kernel_rfl) (by kernel_rfl) B X T ?_ ?_ hP (by decide +kernel) 1 _ 0 _ _ _ _ _ _ _ _ ?h1 ?h2 ?h3 ?h4 ?h5 ?h6 ?h7 ?h8 ?hQ
    case h3 => k_asm
    case h4 => k_asm
    case h5 => ((try dsimp only); tm_at "lk")
    case h6 => ((try dsimp only); tm_at "lk")
    case h7 => ((try dsimp only); tm_at "lk")
    case h8 => ((try dsimp only); tm_at "lk")
    case h1 => decide +kernel
    case h2 => decide +kernel
    case hQ =>
      intro tn' h' tk' m' F N hb hf
      replace hf := dlv (b := 0) hf (by decide +kernel)
      (try dsimp only)
      (repeat' (first | (k_unfold; (try dsimp only)) | (k_end; kc_close) | ((with_reducible show wpAny _ _ (exec (Stmt.While _ _ _ _) _) _ _ _); with_reducible ((k_here; (with_reducible show wpAny _ _ (exec (Stmt.While (Expr.BoolOp _ [_, Expr.Compare _ _ [Expr.Constant _ _ _] _] _) _ _ _) _) _ _ _); refine held ?_))) | ((with_reducible show (if _ then _ else _)); with_reducible ((k_closed; first | refine ite_pos (by decide +kernel) ?_ | refine ite_neg (by decide +kernel) ?_))) | walk1 | (dsimp only; walk1) | (leave1; (try dsimp only)) | fail "no step"))
      all_goals exact hret _ ((_, tok2 _ _ _ _) :: news) _ _ (by k_asm) (dropx (by k_asm) (by walk_at "my_subs")) ⟨_, _, rfl, fun p hp => Nat.ne_of_lt (allLt_mem _ (by walk_at "my_allLt") p hp), due_int rfl (by decide +kernel), rfl⟩
    all_goals omega))) only [↓boxed]
theorem lval3 (w : World) (t : Tok) (news : List (Addr × Obj)) : Tel w 369 [.str "12x" t] 20 200 news (RetDue (.ok (.n (12))) news) (fun _ => False) := by
  refine Box.out ?_
  simp (disch :=
    k_dflt ((
    refine keepP ?_
    walk_at "my_go"
    intro lo mean mg mb dp un gd outer A₀ base h₀ L hp0 gn0 dr0 tk0 os0 Q E B F X N T hd0 hu0 hP hret hexcN hexc
    (try dsimp only at F)
    (repeat' (first | (k_unfold; (try dsimp only)) | (k_end; kc_close) | ((with_reducible show wpAny _ _ (exec (Stmt.While _ _ _ _) _) _ _ _); with_reducible ((k_here; (with_reducible show wpAny _ _ (exec (Stmt.While (Expr.BoolOp _ [_, Expr.Compare _ _ [Expr.Constant _ _ _] _] _) _ _ _) _) _ _ _); refine held ?_))) | ((with_reducible show (if _ then _ else _)); with_reducible ((k_closed; first | refine ite_pos (by decide +kernel) ?_ | refine ite_neg (by decide +kernel) ?_))) | walk1 | (dsimp only; walk1) | (leave1; (try dsimp only)) | fail "no step"))
    unfold Held
    refine whl_start 0 ?_
    refine' ldig (x := "12x") (by kernel_rfl) (by kernel_rfl) (by kernel_rfl) B X T ?_ ?_ hP (by decide +kernel) 3 _ 0 _ _ _ _ _ _ _ _ ?h1 ?h2 ?h3 ?h4 ?h5 ?h6 ?h7 ?h8 ?hQ
    case h3 => k_asm
    case h4 => k_asm
    case h5 => ((try dsimp only); tm_at "lk")
    case h6 => ((try dsimp only); tm_at "lk")
    case h7 => ((try dsimp only); tm_at "lk")
    case h8 => ((try dsimp only); tm_at "lk")
    case h1 => decide +kernel
    case h2 => decide +kernel
    case hQ =>
      intro tn' h' tk' m' F N hb hf
      replace hf := dlv (b := 12) hf (by decide +kernel)
      (try dsimp only)
      (repeat' (first | (k_unfold; (try dsimp only)) | (k_end; kc_close) | ((with_reducible show wpAny _ _ (exec (Stmt.While _ _ _ _) _) _ _ _); with_reducible ((k_here; (with_reducible show wpAny _ _ (exec (Stmt.While (Expr.BoolOp _ [_, Expr.Compare _ _ [Expr.Constant _ _ _] _] _) _ _ _) _) _ _ _); refine held ?_))) | ((with_reducible show (if _ then _ else _)); with_reducible ((k_closed; first | refine ite_pos (by decide +kernel) ?_ | refine ite_neg (by decide +kernel) ?_))) | walk1 | (dsimp only; walk1) | (leave1; (try dsimp only)) | fail "no step"))
      all_goals exact hret _ ((_, tok2 _ _ _ _) :: news) _ _ (by k_asm) (dropx (by k_asm) (by walk_at "my_subs")) ⟨_, _, rfl, fun p hp => Nat.ne_of_lt (allLt_mem _ (by walk_at "my_allLt") p hp), due_int rfl (by decide +kernel), rfl⟩
    all_goals omega))) only [↓boxed]
theorem lval4 (w : World) (t : Tok) (news : List (Addr × Obj)) : Tel w 369 [.str " -7" t] 20 200 news (RetDue (.ok (.n (-7))) news) (fun _ => False) := by
  refine Box.out ?_
  simp (disch :=
    k_dflt ((
    refine keepP ?_
    walk_at "my_go"
    intro lo mean mg mb dp un gd outer A₀ base h₀ L hp0 gn0 dr0 tk0 os0 Q E B F X N T hd0 hu0 hP hret hexcN hexc
    (try dsimp only at F)
    (repeat' (first | (k_unfold; (try dsimp only)) | (k_end; kc_close) | ((with_reducible show wpAny _ _ (exec (Stmt.While _ _ _ _) _) _ _ _); with_reducible ((k_here; (with_reducible show wpAny _ _ (exec (Stmt.While (Expr.BoolOp _ [_, Expr.Compare _ _ [Expr.Constant _ _ _] _] _) _ _ _) _) _ _ _); refine held ?_))) | ((with_reducible show (if _ then _ else _)); with_reducible ((k_closed; first | refine ite_pos (by decide +kernel) ?_ | refine ite_neg (by decide +kernel) ?_))) | walk1 | (dsimp only; walk1) | (leave1; (try dsimp only)) | fail "no step"))
    unfold Held
    refine whl_start 0 ?_
    refine' ldig (x := " -7") (by kernel_rfl) (by kernel_rfl) (by kernel_rfl) B X T ?_ ?_ hP (by decide +kernel) 1 _ 0 _ _ _ _ _ _ _ _ ?h1 ?h2 ?h3 ?h4 ?h5 ?h6 ?h7 ?h8 ?hQ
    case h3 => k_asm
    case h4 => k_asm
    case h5 => ((try dsimp only); tm_at "lk")
    case h6 => ((try dsimp only); tm_at "lk")
    case h7 => ((try dsimp only); tm_at "lk")
    case h8 => ((try dsimp only); tm_at "lk")
    case h1 => decide +kernel
    case h2 => decide +kernel
    case hQ =>
      intro tn' h' tk' m' F N hb hf
      replace hf := dlv (b := 7) hf (by decide +kernel)
      (try dsimp only)
      (repeat' (first | (k_unfold; (try dsimp only)) | (k_end; kc_close) | ((with_reducible show wpAny _ _ (exec (Stmt.While _ _ _ _) _) _ _ _); with_reducible ((k_here; (with_reducible show wpAny _ _ (exec (Stmt.While (Expr.BoolOp _ [_, Expr.Compare _ _ [Expr.Constant _ _ _] _] _) _ _ _) _) _ _ _); refine held ?_))) | ((with_reducible show (if _ then _ else _)); with_reducible ((k_closed; first | refine ite_pos (by decide +kernel) ?_ | refine ite_neg (by decide +kernel) ?_))) | walk1 | (dsimp only; walk1) | (leave1; (try dsimp only)) | fail "no step"))
      all_goals exact hret _ ((_, tok2 _ _ _ _) :: news) _ _ (by k_asm) (dropx (by k_asm) (by walk_at "my_subs")) ⟨_, _, rfl, fun p hp => Nat.ne_of_lt (allLt_mem _ (by walk_at "my_allLt") p hp), due_int rfl (by decide +kernel), rfl⟩
    all_goals omega))) only [↓boxed]
theorem lval5 (w : World) (t : Tok) (news : List (Addr × Obj)) : Tel w 369 [.str "32768" t] 20 200 news (RetDue (.bad "OV") news) (fun _ => False) := by
  refine Box.out ?_
  simp (disch :=
    k_dflt ((
    refine keepP ?_
    walk_at "my_go"
    intro lo mean mg mb dp un gd outer A₀ base h₀ L hp0 gn0 dr0 tk0 os0 Q E B F X N T hd0 hu0 hP hret hexcN hexc
    (try dsimp only at F)
    (repeat' (first | (k_unfold; (try dsimp only)) | (k_end; kc_close) | ((with_reducible show wpAny _ _ (exec (Stmt.While _ _ _ _) _) _ _ _); with_reducible ((k_here; (with_reducible show wpAny _ _ (exec (Stmt.While (Expr.BoolOp _ [_, Expr.Compare _ _ [Expr.Constant _ _ _] _] _) _ _ _) _) _ _ _); refine held ?_))) | ((with_reducible show (if _ then _ else _)); with_reducible ((k_closed; first | refine ite_pos (by decide +kernel) ?_ | refine ite_neg (by decide +kernel) ?_))) | walk1 | (dsimp only; walk1) | (leave1; (try dsimp only)) | fail "no step"))
    unfold Held
    refine whl_start 0 ?_
    refine' ldig (x := "32768") (by kernel_rfl) (by kernel_rfl) (by kernel_rfl) B X T ?_ ?_ hP (by decide +kernel) 5 _ 0 _ _ _ _ _ _ _ _ ?h1 ?h2 ?h3 ?h4 ?h5 ?h6 ?h7 ?h8 ?hQ
    case h3 => k_asm
    case h4 => k_asm
    case h5 => ((try dsimp only); tm_at "lk")
    case h6 => ((try dsimp only); tm_at "lk")
    case h7 => ((try dsimp only); tm_at "lk")
    case h8 => ((try dsimp only); tm_at "lk")
    case h1 => decide +kernel
    case h2 => decide +kernel
    case hQ =>
      intro tn' h' tk' m' F N hb hf
      replace hf := dlv (b := 32768) hf (by decide +kernel)
      (try dsimp only)
      (repeat' (first | (k_unfold; (try dsimp only)) | (k_end; kc_close) | ((with_reducible show wpAny _ _ (exec (Stmt.While _ _ _ _) _) _ _ _); with_reducible ((k_here; (with_reducible show wpAny _ _ (exec (Stmt.While (Expr.BoolOp _ [_, Expr.Compare _ _ [Expr.Constant _ _ _] _] _) _ _ _) _) _ _ _); refine held ?_))) | ((with_reducible show (if _ then _ else _)); with_reducible ((k_closed; first | refine ite_pos (by decide +kernel) ?_ | refine ite_neg (by decide +kernel) ?_))) | walk1 | (dsimp only; walk1) | (leave1; (try dsimp only)) | fail "no step"))
      all_goals exact hret _ ((_, tok2 _ _ _ _) :: news) _ _ (by k_asm) (dropx (by k_asm) (by walk_at "my_subs")) ⟨_, _, rfl, fun p hp => Nat.ne_of_lt (allLt_mem _ (by walk_at "my_allLt") p hp), due_bad rfl, rfl⟩
    all_goals omega))) only [↓boxed]
theorem lval6 (w : World) (t : Tok) (news : List (Addr × Obj)) : Tel w 369 [.str "-32768" t] 20 200 news (RetDue (.ok (.n (-32768))) news) (fun _ => False) := by
  refine Box.out ?_
  simp (disch :=
    k_dflt ((
    refine keepP ?_
    walk_at "my_go"
    intro lo mean mg mb dp un gd outer A₀ base h₀ L hp0 gn0 dr0 tk0 os0 Q E B F X N T hd0 hu0 hP hret hexcN hexc
    (try dsimp only at F)
    (repeat' (first | (k_unfold; (try dsimp only)) | (k_end; kc_close) | ((with_reducible show wpAny _ _ (exec (Stmt.While _ _ _ _) _) _ _ _); with_reducible ((k_here; (with_reducible show wpAny _ _ (exec (Stmt.While (Expr.BoolOp _ [_, Expr.Compare _ _ [Expr.Constant _ _ _] _] _) _ _ _) _) _ _ _); refine held ?_))) | ((with_reducible show (if _ then _ else _)); with_reducible ((k_closed; first | refine ite_pos (by decide +kernel) ?_ | refine ite_neg (by decide +kernel) ?_))) | walk1 | (dsimp only; walk1) | (leave1; (try dsimp only)) | fail "no step"))
    unfold Held
    refine whl_start 0 ?_
    refine' ldig (x := "-32768") (by kernel_rfl) (by kernel_rfl) (by kernel_rfl) B X T ?_ ?_ hP (by decide +kernel) 5 _ 0 _ _ _ _ _ _ _ _ ?h1 ?h2 ?h3 ?h4 ?h5 ?h6 ?h7 ?h8 ?hQ
    case h3 => k_asm
    case h4 => k_asm
    case h5 => ((try dsimp only); tm_at "lk")
    case h6 => ((try dsimp only); tm_at "lk")
    case h7 => ((try dsimp only); tm_at "lk")
    case h8 => ((try dsimp only); tm_at "lk")
    case h1 => decide +kernel
    case h2 => decide +kernel
    case hQ =>
      intro tn' h' tk' m' F N hb hf
      replace hf := dlv (b := 32768) hf (by decide +kernel)
      (try dsimp only)
      (repeat' (first | (k_unfold; (try dsimp only)) | (k_end; kc_close) | ((with_reducible show wpAny _ _ (exec (Stmt.While _ _ _ _) _) _ _ _); with_reducible ((k_here; (with_reducible show wpAny _ _ (exec (Stmt.While (Expr.BoolOp _ [_, Expr.Compare _ _ [Expr.Constant _ _ _] _] _) _ _ _) _) _ _ _); refine held ?_))) | ((with_reducible show (if _ then _ else _)); with_reducible ((k_closed; first | refine ite_pos (by decide +kernel) ?_ | refine ite_neg (by decide +kernel) ?_))) | walk1 | (dsimp only; walk1) | (leave1; (try dsimp only)) | fail "no step"))
      all_goals exact hret _ ((_, tok2 _ _ _ _) :: news) _ _ (by k_asm) (dropx (by k_asm) (by walk_at "my_subs")) ⟨_, _, rfl, fun p hp => Nat.ne_of_lt (allLt_mem _ (by walk_at "my_allLt") p hp), due_int rfl (by decide +kernel), rfl⟩
    all_goals omega))) only [↓boxed]
theorem lval7 (w : World) (t : Tok) (news : List (Addr × Obj)) : Tel w 369 [.str "99999" t] 20 200 news (RetDue (.bad "OV") news) (fun _ => False) := by
  refine Box.out ?_
  simp (disch :=
    k_dflt ((
    refine keepP ?_
    walk_at "my_go"
    intro lo mean mg mb dp un gd outer A₀ base h₀ L hp0 gn0 dr0 tk0 os0 Q E B F X N T hd0 hu0 hP hret hexcN hexc
    (try dsimp only at F)
    (repeat' (first | (k_unfold; (try dsimp only)) | (k_end; kc_close) | ((with_reducible show wpAny _ _ (exec (Stmt.While _ _ _ _) _) _ _ _); with_reducible ((k_here; (with_reducible show wpAny _ _ (exec (Stmt.While (Expr.BoolOp _ [_, Expr.Compare _ _ [Expr.Constant _ _ _] _] _) _ _ _) _) _ _ _); refine held ?_))) | ((with_reducible show (if _ then _ else _)); with_reducible ((k_closed; first | refine ite_pos (by decide +kernel) ?_ | refine ite_neg (by decide +kernel) ?_))) | walk1 | (dsimp only; walk1) | (leave1; (try dsimp only)) | fail "no step"))
    unfold Held
    refine whl_start 0 ?_
    refine' ldig (x := "99999") (by kernel_rfl) (by kernel_rfl) (by kernel_rfl) B X T ?_ ?_ hP (by decide +kernel) 5 _ 0 _ _ _ _ _ _ _ _ ?h1 ?h2 ?h3 ?h4 ?h5 ?h6 ?h7 ?h8 ?hQ
    case h3 => k_asm
    case h4 => k_asm
    case h5 => ((try dsimp only); tm_at "lk")
    case h6 => ((try dsimp only); tm_at "lk")
    case h7 => ((try dsimp only); tm_at "lk")
    case h8 => ((try dsimp only); tm_at "lk")
    case h1 => decide +kernel
    case h2 => decide +kernel
    case hQ =>
      intro tn' h' tk' m' F N hb hf
      replace hf := dlv (b := 99999) hf (by decide +kernel)
      (try dsimp only)
      (repeat' (first | (k_unfold; (try dsimp only)) | (k_end; kc_close) | ((with_reducible show wpAny _ _ (exec (Stmt.While _ _ _ _) _) _ _ _); with_reducible ((k_here; (with_reducible show wpAny _ _ (exec (Stmt.While (Expr.BoolOp _ [_, Expr.Compare _ _ [Expr.Constant _ _ _] _] _) _ _ _) _) _ _ _); refine held ?_))) | ((with_reducible show (if _ then _ else _)); with_reducible ((k_closed; first | refine ite_pos (by decide +kernel) ?_ | refine ite_neg (by decide +kernel) ?_))) | walk1 | (dsimp only; walk1) | (leave1; (try dsimp only)) | fail "no step"))
      all_goals exact hret _ ((_, tok2 _ _ _ _) :: news) _ _ (by k_asm) (dropx (by k_asm) (by walk_at "my_subs")) ⟨_, _, rfl, fun p hp => Nat.ne_of_lt (allLt_mem _ (by walk_at "my_allLt") p hp), due_bad rfl, rfl⟩
    all_goals omega))) only [↓boxed]
theorem lval8 (w : World) (t : Tok) (news : List (Addr × Obj)) : Tel w 369 [.str "ab" t] 20 200 news (RetDue (.ok (.n (0))) news) (fun _ => False) := by
  refine Box.out ?_
  simp (disch :=
    k_dflt ((
    refine keepP ?_
    walk_at "my_go"
    intro lo mean mg mb dp un gd outer A₀ base h₀ L hp0 gn0 dr0 tk0 os0 Q E B F X N T hd0 hu0 hP hret hexcN hexc
    (try dsimp only at F)
    (repeat' (first | (k_unfold; (try dsimp only)) | (k_end; kc_close) | ((with_reducible show wpAny _ _ (exec (Stmt.While _ _ _ _) _) _ _ _); with_reducible ((k_here; (with_reducible show wpAny _ _ (exec (Stmt.While (Expr.BoolOp _ [_, Expr.Compare _ _ [Expr.Constant _ _ _] _] _) _ _ _) _) _ _ _); refine held ?_))) | ((with_reducible show (if _ then _ else _)); with_reducible ((k_closed; first | refine ite_pos (by decide +kernel) ?_ | refine ite_neg (by decide +kernel) ?_))) | walk1 | (dsimp only; walk1) | (leave1; (try dsimp only)) | fail "no step"))
    unfold Held
    refine whl_start 0 ?_
    refine' ldig (x := "ab") (by kernel_rfl) (by kernel_rfl) (by kernel_rfl) B X T ?_ ?_ hP (by decide +kernel) 2 _ 0 _ _ _ _ _ _ _ _ ?h1 ?h2 ?h3 ?h4 ?h5 ?h6 ?h7 ?h8 ?hQ
    case h3 => k_asm
    case h4 => k_asm
    case h5 => ((try dsimp only); tm_at "lk")
    case h6 => ((try dsimp only); tm_at "lk")
    case h7 => ((try dsimp only); tm_at "lk")
    case h8 => ((try dsimp only); tm_at "lk")
    case h1 => decide +kernel
    case h2 => decide +kernel
    case hQ =>
      intro tn' h' tk' m' F N hb hf
      replace hf := dlv (b := 0) hf (by decide +kernel)
      (try dsimp only)
      (repeat' (first | (k_unfold; (try dsimp only)) | (k_end; kc_close) | ((with_reducible show wpAny _ _ (exec (Stmt.While _ _ _ _) _) _ _ _); with_reducible ((k_here; (with_reducible show wpAny _ _ (exec (Stmt.While (Expr.BoolOp _ [_, Expr.Compare _ _ [Expr.Constant _ _ _] _] _) _ _ _) _) _ _ _); refine held ?_))) | ((with_reducible show (if _ then _ else _)); with_reducible ((k_closed; first | refine ite_pos (by decide +kernel) ?_ | refine ite_neg (by decide +kernel) ?_))) | walk1 | (dsimp only; walk1) | (leave1; (try dsimp only)) | fail "no step"))
      all_goals exact hret _ ((_, tok2 _ _ _ _) :: news) _ _ (by k_asm) (dropx (by k_asm) (by walk_at "my_subs")) ⟨_, _, rfl, fun p hp => Nat.ne_of_lt (allLt_mem _ (by walk_at "my_allLt") p hp), due_int rfl (by decide +kernel), rfl⟩
    all_goals omega))) only [↓boxed]
end
section
noncomputable def Hold (P : Prop) : Prop := P
theorem hold {P : Prop} (h : Hold P) : P := h
set_option maxHeartbeats 16000000
noncomputable def RetTok (wd : PySem.Str) (ds : List Dv) (news : List (Addr × Obj)) (v : Value) (n : List (Addr × Obj)) : Prop := ∃ a vs k n', v = .ref a ∧ n = (a, listObj vs k) :: n' ∧ (∀ p ∈ news, p ∈ n') ∧ TokL n' vs (lawToks wd ds) ∧ vs.length = (lawToks wd ds).length
theorem tokAt_s {news : List (Addr × Obj)} {a : Addr} {k x : PySem.Str} {t1 t2 : Tok} {n : Nat} (h : (a, tok2 k t1 (.str x t2) n) ∈ news) : TokAt news (.ref a) (mkT k (.s x)) := ⟨a, t1, n, _, rfl, ⟨t2, rfl⟩, h⟩
noncomputable def b1 (b : Bool) : Nat := ((if b = true then 1 else 0 : Int)).toNat
theorem TokL.rep {news : List (Addr × Obj)} {b : Bool} {r : Value} {t : Tk} (h : TokAt news r t) : TokL news (List.replicate (b1 b) r) (if b = true then [t] else []) := fun j tk e => by
  cases b with
  | false => simp at e
  | true =>
    cases j with
    | zero => simp at e; subst e; exact ⟨r, rfl, h⟩
    | succ j => simp at e
theorem rep_len {b : Bool} {r : Value} {t : Tk} : (List.replicate (b1 b) r).length = (if b = true then [t] else [] : List Tk).length := by cases b <;> rfl
theorem sepT_eq (i : Nat) : sepT i = if decide (0 < (i : Int)) = true then [mkT "sign" (.s ",")] else [] := by
  unfold sepT
  by_cases h : 0 < i
  · rw [if_pos h, if_pos (by simpa using h)]
  · rw [if_neg h, if_neg (by simpa using h)]
theorem preT_succ {wd : PySem.Str} {ds : List Dv} {i : Nat} {d : Dv} (h : ds[i]? = some d) : preT wd ds (i + 1) = preT wd ds i ++ (sepT i ++ toksOf d) := by
  show preT wd ds i ++ (sepT i ++ toksOf (ds.getD i (.n 0))) = _
  rw [List.getD_eq_getElem?_getD, h]
  rfl
section
variable {h₀ h' : Heap} {L : Addr} {s₁ : Shared} {tk : Nat} {mo : PySem.Str → Option Value} {wd x : PySem.Str} {ds : List Dv} {l I D0 D3 fa : Nat} {lo o1 o2 : Obj} {news n1 : List (Addr × Obj)} {vs : List Value} {i : Nat} {t0 tx t1 t2 : Tok} {n0 n3 k : Nat}
theorem tok_out (n' : List (Addr × Obj)) {all : List (Addr × Obj)} {vs' : List Value} (F : Fr h₀ L h' (fun y => if y = Str.ofString "found" then some (.ref fa) else mo y)) (N : News h₀ L h' all)
    (hs : ∀ p ∈ (I + 1, o1) :: (I, o2) :: n', p ∈ all) (hap : ∀ p ∈ n', p.1 ≠ I ∧ p.1 ≠ I + 1) (hfa : (fa, listObj vs' k) ∈ n') (hlo : (l, lo) ∈ n') (hsub : ∀ p ∈ news, p ∈ n') (hT : TokL n' vs' (preT wd ds (i + 1))) (hle : vs'.length = (preT wd ds (i + 1)).length) :
    UnrEndW h₀ L s₁ [(I + 1, o1), (I, o2)] (fun m' n' => SubL [(l, lo)] n' ∧ TokJ wd ds l I lo news (i + 1) m' n') { s₁ with heap := h', toks := tk } :=
  ⟨h', tk, _, n', rfl, F, fun p hp => N p (hs p hp), fun p hp q hq => by
    rcases List.mem_cons.mp hq with rfl | hq
    · exact (hap p hp).2
    · rw [List.mem_singleton.mp hq]; exact (hap p hp).1, ⟨hlo, trivial⟩, fa, vs', k, mo, rfl, hfa, hlo, hsub, hap, hT, hle⟩
theorem tok_s {p3 p4 : Addr × Obj} (F : Fr h₀ L h' (fun y => if y = Str.ofString "found" then some (.ref fa) else mo y))
    (N : News h₀ L h' ((D0, tok2 "text" t0 (.str x tx) n0) :: (fa, W.listOf ((vs ++ List.replicate (b1 (decide (0 < (i : Int)))) (Value.ref D3)).toArray.push (Value.ref D0)) k) :: p3 :: p4 :: (D3, tok2 "sign" t1 (.str "," t2) n3) :: (I + 1, o1) :: (I, o2) :: n1))
    (g0 : I + 1 < D0) (g1 : I + 1 < fa) (g5 : I + 1 < D3) (hlo : (l, lo) ∈ n1) (hsub : ∀ p ∈ news, p ∈ n1) (hap : ∀ p ∈ n1, p.1 ≠ I ∧ p.1 ≠ I + 1) (hTk : TokL n1 vs (preT wd ds i)) (hle : vs.length = (preT wd ds i).length) (hd : ds[i]? = some (.s x)) :
    UnrEndW h₀ L s₁ [(I + 1, o1), (I, o2)] (fun m' n' => SubL [(l, lo)] n' ∧ TokJ wd ds l I lo news (i + 1) m' n') { s₁ with heap := h', toks := tk } := by
  have e : W.listOf ((vs ++ List.replicate (b1 (decide (0 < (i : Int)))) (Value.ref D3)).toArray.push (Value.ref D0)) k = listObj (vs ++ (List.replicate (b1 (decide (0 < (i : Int)))) (Value.ref D3) ++ [Value.ref D0])) k := by
    rw [List.push_toArray, List.append_assoc]
  rw [e] at N
  have m : ∀ p ∈ n1, p ∈ ((D0, tok2 "text" t0 (.str x tx) n0) :: (fa, listObj (vs ++ (List.replicate (b1 (decide (0 < (i : Int)))) (Value.ref D3) ++ [Value.ref D0])) k) :: (D3, tok2 "sign" t1 (.str "," t2) n3) :: n1 : List (Addr × Obj)) := fun p hp => .tail _ (.tail _ (.tail _ hp))
  refine tok_out ((D0, tok2 "text" t0 (.str x tx) n0) :: (fa, listObj (vs ++ (List.replicate (b1 (decide (0 < (i : Int)))) (Value.ref D3) ++ [Value.ref D0])) k) :: (D3, tok2 "sign" t1 (.str "," t2) n3) :: n1) F N (fun p hp => ?_) (fun p hp => ?_) (.tail _ (.head _)) (m _ hlo) (fun p hp => m p (hsub p hp)) ?_ ?_
  · simp only [List.mem_cons] at hp ⊢
    rcases hp with h | h | h | h | h | h <;> simp only [h, true_or, or_true]
  · rcases List.mem_cons.mp hp with rfl | hp
    · exact ⟨by k_ne, by k_ne⟩
    rcases List.mem_cons.mp hp with rfl | hp
    · exact ⟨by k_ne, by k_ne⟩
    rcases List.mem_cons.mp hp with rfl | hp
    · exact ⟨by k_ne, by k_ne⟩
    exact hap p hp
  · rw [preT_succ hd, sepT_eq]
    exact (hTk.mono m).app ((TokL.rep (tokAt_s (t1 := t1) (t2 := t2) (n := n3) (.tail _ (.tail _ (.head _))))).app (TokL.one (.head _) ⟨tx, rfl⟩) rep_len) hle
  · rw [preT_succ hd, sepT_eq, List.length_append, List.length_append, List.length_append, List.length_append, hle, rep_len (t := mkT "sign" (.s ","))]
    rfl
theorem tok_n {x y : Int} {u : Tok} {D4 D1 : Nat} {n4 n5 : Nat} {t4 t5 t6 : Tok} {p2 p4 p5 p6 p8 p9 p10 : Addr × Obj} (hy : y = if x < 0 then -x else x) (F : Fr h₀ L h' (fun y => if y = Str.ofString "found" then some (.ref fa) else mo y))
    (N : News h₀ L h' ((fa, listObj (vs ++ List.replicate (b1 (decide (0 < (i : Int)))) (Value.ref D3) ++ List.replicate (b1 (decide (x < 0))) (Value.ref D4) ++ [Value.ref D1]) k) :: p2 :: (D1, tok2 "number" t6 (.int y u) n5) :: p4 :: p5 :: p6 :: (D4, tok2 "sign" t4 (.str "-" t5) n4) :: p8 :: p9 :: p10 :: (D3, tok2 "sign" t1 (.str "," t2) n3) :: (I + 1, o1) :: (I, o2) :: n1))
    (g0 : I + 1 < D1) (g1 : I + 1 < fa) (g4 : I + 1 < D4) (g5 : I + 1 < D3) (hlo : (l, lo) ∈ n1) (hsub : ∀ p ∈ news, p ∈ n1) (hap : ∀ p ∈ n1, p.1 ≠ I ∧ p.1 ≠ I + 1) (hTk : TokL n1 vs (preT wd ds i)) (hle : vs.length = (preT wd ds i).length) (hd : ds[i]? = some (.n x)) :
    UnrEndW h₀ L s₁ [(I + 1, o1), (I, o2)] (fun m' n' => SubL [(l, lo)] n' ∧ TokJ wd ds l I lo news (i + 1) m' n') { s₁ with heap := h', toks := tk } := by
  rw [List.append_assoc, List.append_assoc] at N
  have ht : toksOf (.n x) = (if decide (x < 0) = true then [mkT "sign" (.s "-")] else []) ++ [mkT "number" (.n y)] := by
    subst hy
    by_cases h : x < 0 <;> simp [toksOf, h]
  have m : ∀ p ∈ n1, p ∈ ((fa, listObj (vs ++ (List.replicate (b1 (decide (0 < (i : Int)))) (Value.ref D3) ++ (List.replicate (b1 (decide (x < 0))) (Value.ref D4) ++ [Value.ref D1]))) k) :: (D1, tok2 "number" t6 (.int y u) n5) :: (D4, tok2 "sign" t4 (.str "-" t5) n4) :: (D3, tok2 "sign" t1 (.str "," t2) n3) :: n1 : List (Addr × Obj)) := fun p hp => .tail _ (.tail _ (.tail _ (.tail _ hp)))
  refine tok_out ((fa, listObj (vs ++ (List.replicate (b1 (decide (0 < (i : Int)))) (Value.ref D3) ++ (List.replicate (b1 (decide (x < 0))) (Value.ref D4) ++ [Value.ref D1]))) k) :: (D1, tok2 "number" t6 (.int y u) n5) :: (D4, tok2 "sign" t4 (.str "-" t5) n4) :: (D3, tok2 "sign" t1 (.str "," t2) n3) :: n1) F N (fun p hp => ?_) (fun p hp => ?_) (.head _) (m _ hlo) (fun p hp => m p (hsub p hp)) ?_ ?_
  · simp only [List.mem_cons] at hp ⊢
    rcases hp with h | h | h | h | h | h | h <;> simp only [h, true_or, or_true]
  · rcases List.mem_cons.mp hp with rfl | hp
    · exact ⟨by k_ne, by k_ne⟩
    rcases List.mem_cons.mp hp with rfl | hp
    · exact ⟨by k_ne, by k_ne⟩
    rcases List.mem_cons.mp hp with rfl | hp
    · exact ⟨by k_ne, by k_ne⟩
    rcases List.mem_cons.mp hp with rfl | hp
    · exact ⟨by k_ne, by k_ne⟩
    exact hap p hp
  · rw [preT_succ hd, sepT_eq, ht]
    exact (hTk.mono m).app ((TokL.rep (tokAt_s (t1 := t1) (t2 := t2) (n := n3) (.tail _ (.tail _ (.tail _ (.head _)))))).app ((TokL.rep (tokAt_s (t1 := t4) (t2 := t5) (n := n4) (.tail _ (.tail _ (.head _))))).app (TokL.one (.tail _ (.head _)) ⟨u, rfl⟩) rep_len) rep_len) hle
  · rw [preT_succ hd, sepT_eq, ht]
    simp only [List.length_append]
    rw [hle, rep_len (t := mkT "sign" (.s ",")), rep_len (t := mkT "sign" (.s "-"))]
    rfl
end
theorem tok_fin {wd : PySem.Str} {ds : List Dv} {ws vs : List Value} {news n1 : List (Addr × Obj)} {D D1 : Addr} {p2 : Addr × Obj} {k n : Nat} {t1 t2 : Tok} (hl : ws.length = ds.length) (hn : 1 ≤ ds.length) (hn4 : ds.length ≤ 4) (hsub : ∀ p ∈ news, p ∈ n1) (hTk : TokL n1 vs (preT wd ds ws.length)) (hle : vs.length = (preT wd ds ws.length).length) :
    RetTok wd ds news (.ref D) ((D, listObj (vs ++ [Value.ref D1]) k) :: p2 :: (D1, tok2 "sign" t1 (.str ")" t2) n) :: n1) := by
  rw [hl] at hTk hle
  refine ⟨D, _, k, _, rfl, rfl, fun p hp => .tail _ (.tail _ (hsub p hp)), ?_, ?_⟩
  · rw [← preT_all wd ds hn hn4]
    exact (hTk.mono fun p hp => .tail _ (.tail _ hp)).app (TokL.one (.tail _ (.head _)) ⟨t2, rfl⟩) hle
  · rw [← preT_all wd ds hn hn4, List.length_append, List.length_append, hle]
    rfl
theorem tok_start {wd : PySem.Str} {ds : List Dv} {l I a1 a2 a3 : Nat} {o : Obj} {news : List (Addr × Obj)} {t1 t2 t3 t4 : Tok} {n n1 n2 : Nat} {mo : PySem.Str → Option Value} (lt : ∀ p ∈ ((a1, W.listOf #[Value.ref a2, Value.ref a3] n) :: (a3, tok2 "sign" t1 (.str "(" t2) n1) :: (a2, tok2 "word" t3 (.str wd t4) n2) :: news : List (Addr × Obj)), p.1 < I) (hlo : (l, o) ∈ news) :
    TokJ wd ds l I o news ([] : List Value).length (fun y => if y = Str.ofString "found" then some (.ref a1) else mo y) ((a1, W.listOf #[Value.ref a2, Value.ref a3] n) :: (a3, tok2 "sign" t1 (.str "(" t2) n1) :: (a2, tok2 "word" t3 (.str wd t4) n2) :: news) := by
  have m : ∀ p ∈ news, p ∈ ((a1, W.listOf #[Value.ref a2, Value.ref a3] n) :: (a3, tok2 "sign" t1 (.str "(" t2) n1) :: (a2, tok2 "word" t3 (.str wd t4) n2) :: news : List (Addr × Obj)) := fun p hp => .tail _ (.tail _ (.tail _ hp))
  exact ⟨a1, [Value.ref a2, Value.ref a3], n, mo, rfl, .head _, m _ hlo, m, fun p hp => ⟨Nat.ne_of_lt (lt p hp), Nat.ne_of_lt (Nat.lt_succ_of_lt (lt p hp))⟩, TokL.two (tokAt_s (.tail _ (.tail _ (.head _)))) (tokAt_s (.tail _ (.head _))), rfl⟩
theorem ArgsAt.at {ds : List Dv} {ws : List Value} (h : ArgsAt ds ws) {i : Nat} {v : Value} (e : ws[i]? = some v) : ∃ d, ds[i]? = some d ∧ IsD d v := by
  have hi : i < ds.length := h.1 ▸ lt_of_get e
  obtain ⟨w, e2, q⟩ := h.2 i ds[i] (List.getElem?_eq_getElem hi)
  rw [e] at e2; cases e2
  exact ⟨_, List.getElem?_eq_getElem hi, q⟩
theorem tokens_ (w : World) (wd : PySem.Str) (ds : List Dv) (ws : List Value) (hA : ArgsAt ds ws) (hn : 1 ≤ ds.length) (hn4 : ds.length ≤ 4) (hin : ∀ d ∈ ds, d.Ok) (l k : Nat) (t : Tok) (news : List (Addr × Obj)) (h1 : (l, listObj ws k) ∈ news) : Tel w 348 [.str wd t, .ref l] 10 100 news (RetTok wd ds news) (fun _ => False) := by
  refine Box.out ?_
  simp (disch :=
    k_dflt ((
    refine keepP ?_
    walk_at "my_go"
    intro lo mean mg mb dp un gd outer A₀ base h₀ L hp0 gn0 dr0 tk0 os0 Q E B F X N T hd0 hu0 hP hret hexcN hexc
    (try dsimp only at F)
    (repeat' (first | (k_unfold; (try dsimp only)) | (k_end; kc_close) | ((with_reducible show wpAny _ _ (exec (Stmt.For _ _ _ _ _) _) _ _ _); with_reducible ((k_here; (rename Fr _ _ _ _ => lF'); (with_unfolding_all refine' For_turns lF' ?_; k_whole)))) | ((with_reducible show wpAny _ _ (call (Value.type _) _) _ _ _); first | with_reducible ((k_here; (with_reducible show wpAny _ _ (call (Value.type _) [Value.ref _]) (fun xv s₁ => wpAny _ _ (pyIter xv) (fun it s₂ => TurnsAt _ _ _ _ _ _ _ _ _ it s₂) _ s₁) _ _); k_dflt ((refine' ktu_enum ?h ?F ?N ?m ?c ?d ?x ?_); (case h => exact rfl); (case F => k_asm); (case N => k_asm); (case m => tm_at "mem"); (case c => exact rfl); (case d => exact rfl); (case x => exact rfl)); refine hold ?_))) | ((with_reducible show wpAny _ _ (binaryOp Operator.Add _ _) _ _ _); first | with_reducible ((k_here; (with_reducible show wpAny _ _ (binaryOp Operator.Add (Value.ref _) (Value.ref _)) _ _ _); k_dflt (refine addL (by k_asm) (by k_asm) (by tm_at "mem") (by tm_at "mem") (by walk_at "my_size") (by walk_at "my_size") ?_); intro D' h' k' F' N' l1'; (try k_lt l1')))) | ((with_reducible show wpAny _ _ (binaryOp Operator.Mult _ _) _ _ _); first | with_reducible ((k_here; (with_reducible show wpAny _ _ (binaryOp Operator.Mult (Value.ref _) (Value.int _ _)) _ _ _); k_dflt (refine mul1 (by k_asm) (by k_asm) (by tm_at "mem") (by omega) (by omega) ?_); intro D' h' k' F' N' l1'; (try k_lt l1')))) | walk1 | (dsimp only; walk1) | (leave1; (try dsimp only)) | fail "no step"))
    unfold Hold
    intro I ltI
    refine items_ind (TokJ wd ds l I (listObj ws k) news) ?_ ?_ ws [] _ _ rfl ?_
    · intro i v m1 n1 hv hJ T9 t9 h9 tk9 hT F9
      obtain ⟨fa, vs, k2, mo, rfl, hfa, hlo, hsub, hap, hTk, hle⟩ := hJ
      refine AllObj.cons (fun o1 hc1 => ?_)
      refine AllObj.cons (fun o2 hc2 => ?_)
      refine AllObj.nil (fun N9 => ?_)
      dsimp only [List.cons_append, List.nil_append] at N9
      obtain ⟨d, hd, hiv⟩ : ∃ d, ds[i]? = some d ∧ IsD d v := hA.at hv
      have hi5 : i < ds.length := lt_of_get hd
      have hvl : vs.length ≤ 100 := by have := preT_len wd ds i; omega
      cases d with
      | s x =>
        obtain ⟨tx, rfl⟩ := hiv
        (repeat' (first | (k_unfold; (try dsimp only)) | (k_end; kc_close) | ((with_reducible show wpAny _ _ (exec (Stmt.For _ _ _ _ _) _) _ _ _); with_reducible ((k_here; (rename Fr _ _ _ _ => lF'); (with_unfolding_all refine' For_turns lF' ?_; k_whole)))) | ((with_reducible show wpAny _ _ (call (Value.type _) _) _ _ _); first | with_reducible ((k_here; (with_reducible show wpAny _ _ (call (Value.type _) [Value.ref _]) (fun xv s₁ => wpAny _ _ (pyIter xv) (fun it s₂ => TurnsAt _ _ _ _ _ _ _ _ _ it s₂) _ s₁) _ _); k_dflt ((refine' ktu_enum ?h ?F ?N ?m ?c ?d ?x ?_); (case h => exact rfl); (case F => k_asm); (case N => k_asm); (case m => tm_at "mem"); (case c => exact rfl); (case d => exact rfl); (case x => exact rfl)); refine hold ?_))) | ((with_reducible show wpAny _ _ (binaryOp Operator.Add _ _) _ _ _); first | with_reducible ((k_here; (with_reducible show wpAny _ _ (binaryOp Operator.Add (Value.ref _) (Value.ref _)) _ _ _); k_dflt (refine addL (by k_asm) (by k_asm) (by tm_at "mem") (by tm_at "mem") (by walk_at "my_size") (by walk_at "my_size") ?_); intro D' h' k' F' N' l1'; (try k_lt l1')))) | ((with_reducible show wpAny _ _ (binaryOp Operator.Mult _ _) _ _ _); first | with_reducible ((k_here; (with_reducible show wpAny _ _ (binaryOp Operator.Mult (Value.ref _) (Value.int _ _)) _ _ _); k_dflt (refine mul1 (by k_asm) (by k_asm) (by tm_at "mem") (by omega) (by omega) ?_); intro D' h' k' F' N' l1'; (try k_lt l1')))) | ((with_reducible show wpAny _ _ (execs _ _) (UnrPostW _ _ _ _ _ _) _ _); refine opq ?_; intro Q9 hQ9) | ((with_reducible refine sAsgO ?_ (by with_unfolding_all rfl)); intro Q7 hQ7) | (with_reducible refine hQ7 _ _ ?_) | walk1 | (dsimp only; walk1) | (leave1; (try dsimp only)) | fail "no step"))
        all_goals ((rename (∀ a s', UnrPostW _ _ _ _ _ _ a s' → _) => hQ8); refine hQ8 _ _ ?_)
        (repeat' (first | (k_unfold; (try dsimp only)) | (k_end; kc_close) | ((with_reducible show wpAny _ _ (exec (Stmt.For _ _ _ _ _) _) _ _ _); with_reducible ((k_here; (rename Fr _ _ _ _ => lF'); (with_unfolding_all refine' For_turns lF' ?_; k_whole)))) | ((with_reducible show wpAny _ _ (call (Value.type _) _) _ _ _); first | with_reducible ((k_here; (with_reducible show wpAny _ _ (call (Value.type _) [Value.ref _]) (fun xv s₁ => wpAny _ _ (pyIter xv) (fun it s₂ => TurnsAt _ _ _ _ _ _ _ _ _ it s₂) _ s₁) _ _); k_dflt ((refine' ktu_enum ?h ?F ?N ?m ?c ?d ?x ?_); (case h => exact rfl); (case F => k_asm); (case N => k_asm); (case m => tm_at "mem"); (case c => exact rfl); (case d => exact rfl); (case x => exact rfl)); refine hold ?_))) | ((with_reducible show wpAny _ _ (binaryOp Operator.Add _ _) _ _ _); first | with_reducible ((k_here; (with_reducible show wpAny _ _ (binaryOp Operator.Add (Value.ref _) (Value.ref _)) _ _ _); k_dflt (refine addL (by k_asm) (by k_asm) (by tm_at "mem") (by tm_at "mem") (by walk_at "my_size") (by walk_at "my_size") ?_); intro D' h' k' F' N' l1'; (try k_lt l1')))) | ((with_reducible show wpAny _ _ (binaryOp Operator.Mult _ _) _ _ _); first | with_reducible ((k_here; (with_reducible show wpAny _ _ (binaryOp Operator.Mult (Value.ref _) (Value.int _ _)) _ _ _); k_dflt (refine mul1 (by k_asm) (by k_asm) (by tm_at "mem") (by omega) (by omega) ?_); intro D' h' k' F' N' l1'; (try k_lt l1')))) | walk1 | (dsimp only; walk1) | (leave1; (try dsimp only)) | fail "no step"))
        all_goals exact tok_s (by k_asm) (by assumption) (by omega) (by omega) (by omega) hlo hsub hap hTk hle hd
      | n x =>
        obtain ⟨tx, rfl⟩ := hiv
        (repeat' (first | (k_unfold; (try dsimp only)) | (k_end; kc_close) | ((with_reducible show wpAny _ _ (exec (Stmt.For _ _ _ _ _) _) _ _ _); with_reducible ((k_here; (rename Fr _ _ _ _ => lF'); (with_unfolding_all refine' For_turns lF' ?_; k_whole)))) | ((with_reducible show wpAny _ _ (call (Value.type _) _) _ _ _); first | with_reducible ((k_here; (with_reducible show wpAny _ _ (call (Value.type _) [Value.ref _]) (fun xv s₁ => wpAny _ _ (pyIter xv) (fun it s₂ => TurnsAt _ _ _ _ _ _ _ _ _ it s₂) _ s₁) _ _); k_dflt ((refine' ktu_enum ?h ?F ?N ?m ?c ?d ?x ?_); (case h => exact rfl); (case F => k_asm); (case N => k_asm); (case m => tm_at "mem"); (case c => exact rfl); (case d => exact rfl); (case x => exact rfl)); refine hold ?_))) | ((with_reducible show wpAny _ _ (binaryOp Operator.Add _ _) _ _ _); first | with_reducible ((k_here; (with_reducible show wpAny _ _ (binaryOp Operator.Add (Value.ref _) (Value.ref _)) _ _ _); k_dflt (refine addL (by k_asm) (by k_asm) (by tm_at "mem") (by tm_at "mem") (by walk_at "my_size") (by walk_at "my_size") ?_); intro D' h' k' F' N' l1'; (try k_lt l1')))) | ((with_reducible show wpAny _ _ (binaryOp Operator.Mult _ _) _ _ _); first | with_reducible ((k_here; (with_reducible show wpAny _ _ (binaryOp Operator.Mult (Value.ref _) (Value.int _ _)) _ _ _); k_dflt (refine mul1 (by k_asm) (by k_asm) (by tm_at "mem") (by omega) (by omega) ?_); intro D' h' k' F' N' l1'; (try k_lt l1')))) | ((with_reducible show wpAny _ _ (execs _ _) (UnrPostW _ _ _ _ _ _) _ _); refine opq ?_; intro Q9 hQ9) | ((with_reducible refine sAsgO ?_ (by with_unfolding_all rfl)); intro Q7 hQ7) | (with_reducible refine hQ7 _ _ ?_) | walk1 | (dsimp only; walk1) | (leave1; (try dsimp only)) | fail "no step"))
        all_goals ((rename (∀ a s', UnrPostW _ _ _ _ _ _ a s' → _) => hQ8); refine hQ8 _ _ ?_)
        (repeat' (first | (k_unfold; (try dsimp only)) | (k_end; kc_close) | ((with_reducible show wpAny _ _ (exec (Stmt.For _ _ _ _ _) _) _ _ _); with_reducible ((k_here; (rename Fr _ _ _ _ => lF'); (with_unfolding_all refine' For_turns lF' ?_; k_whole)))) | ((with_reducible show wpAny _ _ (call (Value.type _) _) _ _ _); first | with_reducible ((k_here; (with_reducible show wpAny _ _ (call (Value.type _) [Value.ref _]) (fun xv s₁ => wpAny _ _ (pyIter xv) (fun it s₂ => TurnsAt _ _ _ _ _ _ _ _ _ it s₂) _ s₁) _ _); k_dflt ((refine' ktu_enum ?h ?F ?N ?m ?c ?d ?x ?_); (case h => exact rfl); (case F => k_asm); (case N => k_asm); (case m => tm_at "mem"); (case c => exact rfl); (case d => exact rfl); (case x => exact rfl)); refine hold ?_))) | ((with_reducible show wpAny _ _ (binaryOp Operator.Add _ _) _ _ _); first | with_reducible ((k_here; (with_reducible show wpAny _ _ (binaryOp Operator.Add (Value.ref _) (Value.ref _)) _ _ _); k_dflt (refine addL (by k_asm) (by k_asm) (by tm_at "mem") (by tm_at "mem") (by walk_at "my_size") (by walk_at "my_size") ?_); intro D' h' k' F' N' l1'; (try k_lt l1')))) | ((with_reducible show wpAny _ _ (binaryOp Operator.Mult _ _) _ _ _); first | with_reducible ((k_here; (with_reducible show wpAny _ _ (binaryOp Operator.Mult (Value.ref _) (Value.int _ _)) _ _ _); k_dflt (refine mul1 (by k_asm) (by k_asm) (by tm_at "mem") (by omega) (by omega) ?_); intro D' h' k' F' N' l1'; (try k_lt l1')))) | walk1 | (dsimp only; walk1) | (leave1; (try dsimp only)) | fail "no step"))
        all_goals exact tok_n rfl (by k_asm) (by assumption) (by omega) (by omega) (by omega) (by omega) hlo hsub hap hTk hle hd
    · intro m1 n1 hJ h9 tk9 F9 N9
      obtain ⟨fa, vs, k2, mo, rfl, hfa, hlo, hsub, hap, hTk, hle⟩ := hJ
      simp only [List.nil_append] at hTk hle
      have hvl : vs.length ≤ 100 := by have := preT_len wd ds ws.length; have := hA.1; omega
      (repeat' (first | (k_unfold; (try dsimp only)) | (k_end; kc_close) | ((with_reducible show wpAny _ _ (exec (Stmt.For _ _ _ _ _) _) _ _ _); with_reducible ((k_here; (rename Fr _ _ _ _ => lF'); (with_unfolding_all refine' For_turns lF' ?_; k_whole)))) | ((with_reducible show wpAny _ _ (call (Value.type _) _) _ _ _); first | with_reducible ((k_here; (with_reducible show wpAny _ _ (call (Value.type _) [Value.ref _]) (fun xv s₁ => wpAny _ _ (pyIter xv) (fun it s₂ => TurnsAt _ _ _ _ _ _ _ _ _ it s₂) _ s₁) _ _); k_dflt ((refine' ktu_enum ?h ?F ?N ?m ?c ?d ?x ?_); (case h => exact rfl); (case F => k_asm); (case N => k_asm); (case m => tm_at "mem"); (case c => exact rfl); (case d => exact rfl); (case x => exact rfl)); refine hold ?_))) | ((with_reducible show wpAny _ _ (binaryOp Operator.Add _ _) _ _ _); first | with_reducible ((k_here; (with_reducible show wpAny _ _ (binaryOp Operator.Add (Value.ref _) (Value.ref _)) _ _ _); k_dflt (refine addL (by k_asm) (by k_asm) (by tm_at "mem") (by tm_at "mem") (by walk_at "my_size") (by walk_at "my_size") ?_); intro D' h' k' F' N' l1'; (try k_lt l1')))) | ((with_reducible show wpAny _ _ (binaryOp Operator.Mult _ _) _ _ _); first | with_reducible ((k_here; (with_reducible show wpAny _ _ (binaryOp Operator.Mult (Value.ref _) (Value.int _ _)) _ _ _); k_dflt (refine mul1 (by k_asm) (by k_asm) (by tm_at "mem") (by omega) (by omega) ?_); intro D' h' k' F' N' l1'; (try k_lt l1')))) | walk1 | (dsimp only; walk1) | (leave1; (try dsimp only)) | fail "no step"))
      all_goals exact hret _ _ _ _ (by k_asm) (by k_asm) (tok_fin hA.1 hn hn4 hsub hTk hle)
    · exact tok_start ltI (by assumption)))) only [↓boxed]
end
section
open PyProof.Rows.LCg
noncomputable def selU (G : Nat → Bool) (cps : Array Nat) : Nat → List PySem.Str
  | 0 => []
  | i + 1 => selU G cps i ++ (if G i = true then [⟨#[cps.getD i 0]⟩] else [])
theorem strs_snoc {y : PySem.Str} {t : Tok} : ∀ {vs : List Value} {ys : List PySem.Str}, StrsAre vs ys → StrsAre (vs ++ [.str y t]) (ys ++ [y])
  | _, _, .nil => .cons y t .nil
  | _, _, .cons y' t' h => .cons y' t' (strs_snoc h)
structure EcS (h₀ : Heap) (L : Addr) (m : PySem.Str → Option Value) (news : List (Addr × Obj)) (x : PySem.Str) (e it : Addr) (h₁ : Heap) (t : Tok) : Prop where
  F : Fr h₀ L h₁ m
  N : News h₀ L h₁ news
  he : IsEnum h₁ e it 0 .none
  hit : h₁.IsStrIter it "str_ascii_iterator" x t 0
  hne : e ≠ it
  he0 : h₀.get? e = none
  hit0 : h₀.get? it = none
  hLe : L ≠ e
  hLit : L ≠ it
  hoff : ∀ p ∈ news, p.1 ≠ e ∧ p.1 ≠ it
/-- an enumerate over the signs of x has just been made -/
noncomputable def EcSrc (h₀ : Heap) (L : Addr) (m : PySem.Str → Option Value) (news : List (Addr × Obj)) (x : PySem.Str) (s : Shared) (xv : Value) (s₁ : Shared) : Prop :=
  ∃ (e it : Addr) (h₁ : Heap) (tk : Nat) (t : Tok), xv = .ref e ∧ s₁ = { s with heap := h₁, toks := tk } ∧ EcS h₀ L m news x e it h₁ t
section
variable {prog : Program} {w : World} {A : Around} {E : Value → Shared → Prop} {s : Shared} {h₀ : Heap} {L : Addr} {m : PySem.Str → Option Value} {env : Env} {news : List (Addr × Obj)}
theorem ec_call {s₀ : Shared} {x : PySem.Str} {t : Tok} (hasc : x.cps.all (· < 128) = true) (h : Heap) (tk : Nat) (e₀ : s₀ = { s with heap := h, toks := tk }) (F : Fr h₀ L s₀.heap m) (N : News h₀ L s₀.heap news) : wpAny (model prog w) A (call (.type "enumerate") [.str x t]) (EcSrc h₀ L m news x s) E s₀ := by
  have hLs : L < s₀.heap.objs.size := F.ns.lt
  have hab : h₀.objs.size ≤ L := F.above
  refine call_enumerate_str fun h' he hit hsz hk => ?_
  have hit' : h'.IsStrIter s₀.heap.objs.size "str_ascii_iterator" x t 0 := by simpa [strIterType, hasc] using hit
  subst e₀
  refine ⟨_, _, h', tk, t, rfl, rfl, ⟨F.ns.keeps hk, fun b o e => hk b o (F.keep b o e), F.above⟩, fun p hp => ⟨hk _ _ (N p hp).1, (N p hp).2⟩, he, hit', Nat.succ_ne_self _, Heap.get?_none_of_le (Nat.le_trans hab (Nat.le_of_lt (Nat.lt_succ_of_lt hLs))), Heap.get?_none_of_le (Nat.le_trans hab (Nat.le_of_lt hLs)),
    Nat.ne_of_lt (Nat.lt_succ_of_lt hLs), Nat.ne_of_lt hLs, fun p hp => ⟨Nat.ne_of_lt (Nat.lt_succ_of_lt (Heap.lt_size (N p hp).1)), Nat.ne_of_lt (Heap.lt_size (N p hp).1)⟩⟩
structure EcI (h₀ : Heap) (L : Addr) (m : PySem.Str → Option Value) (news : List (Addr × Obj)) (x : PySem.Str) (G : Nat → Bool) (e it D C : Addr) (tt : Tok) (h' : Heap) (i : Nat) (ys : List Value) (m' : PySem.Str → Option Value) : Prop where
  hi : i ≤ x.cps.size
  hyl : ys.length ≤ i
  en : ∃ old, IsEnum h' e it (i : Nat) old
  st : h'.IsStrIter it "str_ascii_iterator" x tt i
  F : Fr h₀ L h' m
  ns : h'.Ns C m'
  N : News h₀ L h' ((D, lst ys) :: news)
  S : StrsAre ys (selU G x.cps i)
noncomputable def EcInv (h₀ : Heap) (L : Addr) (m : PySem.Str → Option Value) (news : List (Addr × Obj)) (x : PySem.Str) (G : Nat → Bool) (e it D C : Addr) (tt : Tok) (s : Shared) (k : Nat) (s' : Shared) : Prop :=
  ∃ h' tk i ys m', s' = { s with heap := h', toks := tk } ∧ k = x.cps.size + 1 - i ∧ EcI h₀ L m news x G e it D C tt h' i ys m'
theorem ec_ListComp {iter c : PySem.Expr} {a b : PySem.Str} {pa pb tp pe : Pos} {kk : Nat} {scope : Scope} {cl : List (PySem.Str × Addr)} {pos : Pos} {Q : Value → Shared → Prop} {x : PySem.Str} (G : Nat → Bool) (hh : A.handled = none)
    (hclos : closureFor scope env = pure cl) (hcell : ∀ y ∈ scope.names, y.2 ≠ .cell) (hkind : scope.kind = .function) (hnames : ∀ y ∈ scope.names, y.2 = .local → scope.names.lookup y.1 = some .local)
    (hxa : scope.names.lookup a = some .local) (hxb : scope.names.lookup b = some .local) (hab : ¬ a = b) (hbd : (b == ("__debug__" : PySem.Str)) = false) (hsz : x.cps.size ≤ 1000)
    (hiter : wpAny (model prog w) A (eval iter env) (EcSrc h₀ L m news x s) E s)
    (turn : ∀ (i ch : Nat) (t u : Tok) (C : Addr) (oC : Obj) (m₂ : PySem.Str → Option Value) (h : Heap) (tk : Nat) (E' : Value → Shared → Prop), x.cps[i]? = some ch → NsObj oC m₂ → m₂ a = some (.int (i : Int) t) → m₂ b = some (.str ⟨#[ch]⟩ u) → Fr h₀ L h m → News h₀ L h ((C, oC) :: news) →
      wpAny (model prog w) A (isTrue c (compEnvC scope cl C env) (eval c (compEnvC scope cl C env))) (fun ok s' => ok = G i ∧ ∃ tk', s' = { s with heap := h, toks := tk' }) E' { s with heap := h, toks := tk })
    (hfin : ∀ D h tk ys, Fr h₀ L h m → News h₀ L h ((D, listObj ys ys.length) :: news) → (∀ p ∈ news, p.1 ≠ D) → StrsAre ys (selU G x.cps x.cps.size) → Q (.ref D) { s with heap := h, toks := tk })
    (hs : ∀ x, foldedSetIterable iter env x = pure x := by intro _; rfl) :
    wpAny (model prog w) A (eval (.ListComp (.Name b pe) [⟨.Tuple [.Name a pa, .Name b pb] kk tp, iter, [c], 0⟩] scope pos) env) Q E s := by
  rw [eval_ListComp]
  refine wpAny_comprehension_free (use := none) rfl hs hclos hkind hnames (wpAny_mono hiter (fun xv s₁ h₁ => ?_) fun _ _ e => e)
  obtain ⟨e, it, H₁, tk₁, tt, rfl, rfl, F, N, he, hit, hne, he0, hit0, hLe, hLit, hoff⟩ := h₁
  refine wpAny_pyIter_enum he ?_
  have D := Draws.strAscii (prog := prog) (w := w) (A := A.in1) hh it x tt
  have W := WalksT.enumerateD D e hne (by simpa using hne) (by simp)
  refine wpAny_newObj_type (wpAny_newFunctionEnv hcell (by intro y hy; simp at hy) (fun h₁ hns₁ hsb₁ => ?_) hkind)
  dsimp only at hns₁ hsb₁ F N he hit ⊢
  generalize hH2 : H₁.push { cls := .type "list", dict := none, data := .seq ([] : List Value).toArray } = H2 at hns₁ hsb₁ ⊢
  have hC : H2.objs.size = H₁.objs.size + 1 := by rw [← hH2, Heap.size_push]
  have hDC : H₁.objs.size ≠ H2.objs.size := by rw [hC]; exact Nat.ne_of_lt (Nat.lt_succ_self _)
  have below : ∀ b, b < H₁.objs.size → b ≠ H2.objs.size ∧ b ≠ H₁.objs.size := fun b hb => ⟨by rw [hC]; exact Nat.ne_of_lt (Nat.lt_succ_of_lt hb), Nat.ne_of_lt hb⟩
  have old : ∀ b o, H₁.get? b = some o → h₁.get? b = some o := fun b o e => hsb₁.extBut b o (below b (Heap.lt_size e)).1 (Heap.get?_push_of_some _ (hH2 ▸ Heap.get?_push_of_some _ e))
  have hacc : h₁.get? H₁.objs.size = some (lst []) := hsb₁.extBut _ _ hDC (Heap.get?_push_of_some _ (hH2 ▸ Heap.get?_push_size _ rfl))
  have hitlt : it < H₁.objs.size := by obtain ⟨o, y, _⟩ := hit; exact Heap.lt_size y
  have helt : e < H₁.objs.size := Heap.lt_size he
  have fresh : ∀ a, H₁.objs.size ≤ a → H₁.get? a = none := fun a ha => by
    cases e : H₁.get? a with
    | none => rfl
    | some o' => exact absurd (Heap.lt_size e) (Nat.not_lt.mpr ha)
  have fresh₀ : ∀ a, H₁.objs.size ≤ a → h₀.get? a = none := fun a ha => by
    cases e : h₀.get? a with
    | none => rfl
    | some o' => have := F.keep a o' e; rw [fresh a ha] at this; cases this
  have hD₀ : h₀.get? H₁.objs.size = none := fresh₀ _ (Nat.le_refl _)
  have hC₀ : h₀.get? H2.objs.size = none := fresh₀ _ (by rw [hC]; exact Nat.le_succ _)
  have hLlt : L < H₁.objs.size := F.ns.lt
  have hDL : H₁.objs.size ≠ L := Ne.symm (below L hLlt).2
  have hCL : H2.objs.size ≠ L := Ne.symm (below L hLlt).1
  have hCe : e ≠ H2.objs.size := (below e helt).1
  have hDe : e ≠ H₁.objs.size := (below e helt).2
  have hCi : it ≠ H2.objs.size := (below it hitlt).1
  have hDi : it ≠ H₁.objs.size := (below it hitlt).2
  have hnC : ∀ p ∈ news, p.1 ≠ H2.objs.size := fun p hp => (below _ (Heap.lt_size (N p hp).1)).1
  have hnD : ∀ p ∈ news, p.1 ≠ H₁.objs.size := fun p hp => (below _ (Heap.lt_size (N p hp).1)).2
  have loop : codeAny (model prog w) A (.compLoop (.ListComp (.Name b pe) [⟨.Tuple [.Name a pa, .Name b pb] kk tp, iter, [c], 0⟩] scope pos) 0 (.ref e) (.ref H₁.objs.size) (compEnvC scope cl H2.objs.size env))
      (compPost (model prog w) A E none Q (.ref H₁.objs.size) H2.objs.size) { s with heap := h₁, toks := tk₁ + ([] : List (PySem.Str × Value)).length } := by
    refine kct_loop
      (EcInv h₀ L m news x G e it H₁.objs.size H2.objs.size tt s) ?_ (x.cps.size + 1)
      ⟨h₁, _, 0, [], _, rfl, rfl, Nat.zero_le _, Nat.le_refl _, ⟨_, old _ _ he⟩, D.frame _ _ _ hit fun b _ o e => old b o e, F.keeps old, hns₁, fun p hp => ?_, .nil⟩
    · rintro k s' ⟨h', tk, i, ys, m', rfl, rfl, hi, hyl, en', st', F', hn', N', hS⟩
      have hst' := And.intro en' st'
      have keep : ∀ h₂ : Heap, (∀ b o, b ∉ [e, it] → h'.get? b = some o → h₂.get? b = some o) → Fr h₀ L h₂ m ∧ News h₀ L h₂ ((H₁.objs.size, lst ys) :: news) ∧ h₂.Ns H2.objs.size m' := fun h₂ hk => by
        refine ⟨⟨F'.ns.at' fun o y => hk L o (by simp [hLe, hLit]) y, fun b o y => hk b o (fun hm => ?_) (F'.keep b o y), F'.above⟩, fun p hp => ⟨hk _ _ (fun hm => ?_) (N' p hp).1, (N' p hp).2⟩, hn'.at' fun o y => hk _ o (by simp [Ne.symm hCe, Ne.symm hCi]) y⟩
        · rcases List.mem_cons.mp hm with rfl | hm
          · rw [he0] at y; cases y
          · rw [List.mem_singleton.mp hm, hit0] at y; cases y
        · rcases List.mem_cons.mp hp with rfl | hp
          · rcases List.mem_cons.mp hm with q | hm
            · exact hDe q.symm
            · exact hDi (List.mem_singleton.mp hm).symm
          · rcases List.mem_cons.mp hm with q | hm
            · exact (hoff p hp).1 q
            · exact (hoff p hp).2 (List.mem_singleton.mp hm)
      by_cases hlt : i < x.cps.size
      · refine W.item i _ _ _ hlt hst' fun T vals h₂ tk₂ hP hTs hT hM hk₂ => ?_
        obtain ⟨t, v, ⟨ch, u, hch, rfl⟩, rfl⟩ := hP
        refine W.go _ _ _ i T _ _ _ hM fun h₃ hst₃ hk₃ => ?_
        have up₃ : ∀ b o, b ∉ [e, it] → h'.get? b = some o → h₃.get? b = some o := fun b o hb y => hk₃ b o hb (hk₂ b o hb y)
        obtain ⟨F₃, N₃, hn₃⟩ := keep h₃ up₃
        have hT₃ : h₃.IsTuple T #[.int (i : Int) t, .str ⟨#[ch]⟩ u] := hT.at fun o y => hk₃ T o (W.apart i T _ hM) y
        refine kcp_assign (env := compEnvC scope cl H2.objs.size env) hh hT₃ (lookup_relabel_local hxa) (lookup_relabel_local hxb) (by simp [compEnvC, relabel, hkind]) hn₃ fun h₄ tk₄ hn₄ hs₄ => ?_
        replace hs₄ : ∀ c o, c ≠ H2.objs.size → h₃.get? c = some o → h₄.get? c = some o := hs₄
        obtain ⟨oC, heC, hoC⟩ := ns_obj hn₄
        have F₄ : Fr h₀ L h₄ m := ⟨F₃.ns.at' fun o y => hs₄ L o (Ne.symm hCL) y, fun c o y => hs₄ c o (fun q => by rw [q, hC₀] at y; cases y) (F₃.keep c o y), F₃.above⟩
        have N₄ : News h₀ L h₄ ((H₁.objs.size, lst ys) :: news) := fun p hp => ⟨hs₄ _ _ (by
          rcases List.mem_cons.mp hp with rfl | hp
          · exact hDC
          · exact hnC p hp) (N₃ p hp).1, (N₃ p hp).2⟩
        have hst₄ : (∃ old, IsEnum h₄ e it ((i + 1 : Nat) : Int) old) ∧ h₄.IsStrIter it "str_ascii_iterator" x tt (i + 1) := by
          obtain ⟨⟨old, q⟩, r⟩ := hst₃
          exact ⟨⟨old, hs₄ _ _ hCe q⟩, D.frame _ _ _ r fun b hb o y => hs₄ b o (by rw [List.mem_singleton.mp hb]; exact hCi) y⟩
        have fin : ∀ (ys' : List Value) (h₅ : Heap) (tk₅ : Nat), ys'.length ≤ i + 1 → (∀ c o, c ≠ H₁.objs.size → h₄.get? c = some o → h₅.get? c = some o) → News h₀ L h₅ ((H₁.objs.size, lst ys') :: news) → StrsAre ys' (selU G x.cps (i + 1)) →
            ∃ q', q' < x.cps.size + 1 - i ∧ EcInv h₀ L m news x G e it H₁.objs.size H2.objs.size tt s q' { s with heap := h₅, toks := tk₅ } := fun ys' h₅ tk₅ hl hk N₅ hS₅ => by
          obtain ⟨⟨old, q⟩, r⟩ := hst₄
          refine ⟨x.cps.size + 1 - (i + 1), by omega, h₅, tk₅, i + 1, ys', _, rfl, rfl, hlt, hl, ⟨old, hk _ _ hDe q⟩, D.frame _ _ _ r fun b hb o y => hk b o (by rw [List.mem_singleton.mp hb]; exact hDi) y, ⟨F₄.ns.at' fun o y => hk L o (Ne.symm hDL) y, fun c o y => hk c o (fun q => by rw [q, hD₀] at y; cases y) (F₄.keep c o y), F₄.above⟩, (hoC.ns (hk _ _ (Ne.symm hDC) heC)), N₅, hS₅⟩
        have hget : x.cps.getD i 0 = ch := by
          have := (Array.getElem?_eq_some_iff.mp hch)
          obtain ⟨q, r⟩ := this
          rw [Array.getD_eq_getD_getElem?, hch]; rfl
        have hmb : (fun z => if z = b then some (Value.str ⟨#[ch]⟩ u) else if z = a then some (Value.int (i : Int) t) else m' z) b = some (Value.str ⟨#[ch]⟩ u) := by simp
        refine wpAny_mono (turn i ch t u H2.objs.size oC _ h₄ _ _ hch hoC (by simp [hab]) hmb F₄ (fun p hp => ?_)) (fun okb s₅ h₅ => ?_) fun _ _ e => e
        · rcases List.mem_cons.mp hp with rfl | hp
          · exact ⟨heC, hCL, hC₀⟩
          · exact N₄ p (List.mem_cons_of_mem _ hp)
        obtain ⟨hok, tk₅, rfl⟩ := h₅
        cases okb with
        | false =>
          simp only [Bool.false_eq_true, if_false]
          refine fin ys h₄ tk₅ (Nat.le_succ_of_le hyl) (fun _ _ _ y => y) N₄ ?_
          show StrsAre ys (selU G x.cps i ++ if G i = true then _ else [])
          rw [if_neg (by rw [← hok]; decide), List.append_nil]
          exact hS
        | true =>
          simp only [if_true]
          refine ldVarK (hoC.ns heC) hmb ?_ (by simp [compEnvC, relabel, hkind]) (lookup_relabel_local hxb) hbd
          have zD := (N₄ (H₁.objs.size, lst ys) List.mem_cons_self).1
          refine append_at (hsz := by show ys.toArray.size ≤ sizeLine; rw [List.size_toArray]; exact Nat.le_trans hyl (Nat.le_trans hi (Nat.le_trans hsz (by decide)))) zD fun h₆ hs₆ hD₆ => ?_
          refine fin (ys ++ [.str ⟨#[ch]⟩ u]) h₆ _ (by rw [List.length_append, List.length_singleton]; exact Nat.succ_le_succ hyl) (fun c o hc y => hs₆.extBut c o hc y) (fun q hq => ?_) ?_
          · rcases List.mem_cons.mp hq with rfl | hq
            · exact ⟨hD₆.trans (congrArg some (lst_snoc ys _)), hDL, hD₀⟩
            · exact ⟨hs₆.extBut _ _ (hnD q hq) (N₄ q (List.mem_cons_of_mem _ hq)).1, (N₄ q (List.mem_cons_of_mem _ hq)).2⟩
          · show StrsAre _ (selU G x.cps i ++ if G i = true then [⟨#[x.cps.getD i 0]⟩] else [])
            rw [if_pos hok.symm, hget]
            exact strs_snoc hS
      · have hin : i = x.cps.size := Nat.le_antisymm hi (Nat.not_lt.mp hlt)
        subst hin
        refine W.done _ _ _ hst' fun h₂ tk₂ hk₂ => ?_
        obtain ⟨F₂, N₂, hn₂⟩ := keep h₂ hk₂
        refine ⟨_, hn₂, fun h'' hs'' => ?_⟩
        refine hfin _ h'' tk₂ ys (F₂.change hs'' hCL hC₀) (fun p hp => ⟨hs''.extBut _ _ ?_ (N₂ p hp).1, (N₂ p hp).2⟩) hnD hS
        rcases List.mem_cons.mp hp with rfl | hp
        · exact hDC
        · exact hnC p hp
    · rcases List.mem_cons.mp hp with rfl | hp
      · exact ⟨hacc, hDL, hD₀⟩
      · exact ⟨old _ _ (N p hp).1, (N p hp).2⟩
  exact codeAny_compStart_list loop (wpAny_pyIter_enum (old _ _ he) loop)
theorem ec_go {hp0 : Heap} {gn0 : Array GenState} {dr0 : Drawn} {tk0 : Nat} {os0 : OsState} {iter c : PySem.Expr} {a b : PySem.Str} {pa pb tp pe : Pos} {kk : Nat} {scope : Scope} {cl : List (PySem.Str × Addr)} {pos : Pos} {Q : Value → Shared → Prop} {x : PySem.Str} (G : Nat → Bool) (_F : Fr h₀ L hp0 m) (_N : News h₀ L hp0 news) (hh : A.handled = none)
    (hclos : closureFor scope env = pure cl) (hcell : ∀ y ∈ scope.names, y.2 ≠ .cell) (hkind : scope.kind = .function) (hnames : ∀ y ∈ scope.names, y.2 = .local → scope.names.lookup y.1 = some .local)
    (hxa : scope.names.lookup a = some .local) (hxb : scope.names.lookup b = some .local) (hab : ¬ a = b) (hbd : (b == ("__debug__" : PySem.Str)) = false) (hsz : x.cps.size ≤ 1000)
    (hs : ∀ x, foldedSetIterable iter env x = pure x)
    (hiter : wpAny (model prog w) A (eval iter env) (EcSrc h₀ L m news x ⟨hp0, gn0, dr0, tk0, os0⟩) E ⟨hp0, gn0, dr0, tk0, os0⟩)
    (turn : ∀ (i ch : Nat) (t u : Tok) (C : Addr) (oC : Obj) (m₂ : PySem.Str → Option Value) (h : Heap) (tk : Nat) (E' : Value → Shared → Prop), x.cps[i]? = some ch → NsObj oC m₂ → m₂ a = some (.int (i : Int) t) → m₂ b = some (.str ⟨#[ch]⟩ u) → Fr h₀ L h m → News h₀ L h ((C, oC) :: news) →
      wpAny (model prog w) A (isTrue c (compEnvC scope cl C env) (eval c (compEnvC scope cl C env))) (fun ok s' => ok = G i ∧ ∃ tk', s' = ⟨h, gn0, dr0, tk', os0⟩) E' ⟨h, gn0, dr0, tk, os0⟩)
    (hfin : ∀ D h tk ys, Fr h₀ L h m → News h₀ L h ((D, listObj ys ys.length) :: news) → (∀ p ∈ news, p.1 ≠ D) → StrsAre ys (selU G x.cps x.cps.size) → Q (.ref D) ⟨h, gn0, dr0, tk, os0⟩) :
    wpAny (model prog w) A (eval (.ListComp (.Name b pe) [⟨.Tuple [.Name a pa, .Name b pb] kk tp, iter, [c], 0⟩] scope pos) env) Q E ⟨hp0, gn0, dr0, tk0, os0⟩ := ec_ListComp G hh hclos hcell hkind hnames hxa hxb hab hbd hsz hiter turn hfin hs
end
theorem selU_weight (G : Nat → Bool) (cps : Array Nat) : ∀ n, ((selU G cps n).map (·.length)).sum + (selU G cps n).length ≤ 2 * n
  | 0 => by simp [selU]
  | n + 1 => by
    have := selU_weight G cps n
    unfold selU
    by_cases h : G n = true
    · rw [if_pos h]
      simp only [List.map_append, List.sum_append, List.length_append, List.map_cons, List.map_nil, List.sum_cons, List.sum_nil, List.length_cons, List.length_nil]
      have e : (⟨#[cps.getD n 0]⟩ : PySem.Str).length = 1 := rfl
      omega
    · rw [if_neg h, List.append_nil]
      omega
end
section
section
variable {prog : Program} {w : World} {A : Around} {E : Value → Shared → Prop} {s : Shared} {env : Env} {h₀ : Heap} {x : PySem.Str} {body : List Stmt} {Q : Flow → Shared → Prop}
theorem range_ind {I : Addr} {a : Int} {n : Nat} {hp : Heap} {g : Array GenState} {dr : Drawn} {tk0 : Nat} {os : OsState} (J : Nat → (PySem.Str → Option Value) → List (Addr × Obj) → Prop)
    (step : ∀ i m news, i < n → J i m news → ∀ t h tk (Q2 : Flow → Shared → Prop),
      (∀ h' tk' m' news', Fr h₀ env.locals h' m' → News h₀ env.locals h' ((I, itR (a + ((i + 1 : Nat) : Int)) ((n : Int) - ((i + 1 : Nat) : Int))) :: news') → (∀ p ∈ news', p.1 ≠ I) → J (i + 1) m' news' → Q2 .next ⟨h', g, dr, tk', os⟩) → (∀ v s', Q (.ret v) s' → Q2 (.ret v) s') →
      Fr h₀ env.locals h (fun y => if y = x then some (.int (a + (i : Int)) t) else m y) → News h₀ env.locals h ((I, itR (a + ((i + 1 : Nat) : Int)) ((n : Int) - ((i + 1 : Nat) : Int))) :: news) →
      wpAny (model prog w) A (execs body env) Q2 E ⟨h, g, dr, tk, os⟩)
    (fin : ∀ m news, J n m news → ∀ h tk, Fr h₀ env.locals h m → News h₀ env.locals h news → Q .next ⟨h, g, dr, tk, os⟩) :
    ∀ (k i : Nat) (m : PySem.Str → Option Value) (news : List (Addr × Obj)), i + k = n → J i m news → RangeRest prog w A E h₀ env x body Q ⟨hp, g, dr, tk0, os⟩ I a n k i m news := by
  intro k
  induction k with
  | zero =>
    intro i m news e hJ
    have e' : i = n := by omega
    subst e'
    exact RangeRest.zero fun h tk F N => fin m news hJ h tk F N
  | succ k ih =>
    intro i m news e hJ
    refine RangeRest.succ fun t h tk F N => ?_
    exact step i m news (by omega) hJ t h tk _ (fun h' tk' m' news' F N a r => ⟨h', tk', m', news', rfl, F, N, a, ih (i + 1) m' news' (by omega) r⟩) (fun v s' q => q) F N
end
noncomputable def RetAny (news : List (Addr × Obj)) (v : Value) (n : List (Addr × Obj)) : Prop := ∃ r, RetDue r news v n
theorem all_up {l : List (Addr × Obj)} {d d' : Nat} (h : ∀ p ∈ l, p.1 < d) (hd : d ≤ d') : ∀ p ∈ l, p.1 ≠ d' := fun p hp => Nat.ne_of_lt (Nat.lt_of_lt_of_le (h p hp) hd)
theorem size_i (w : World) (x l l0 : Int) (e : l = l0) (t tl : Tok) (news : List (Addr × Obj)) : Tel w 355 [.int x t, .int l tl] 3 30 news (fun v n => ((l0 ≤ x ∧ x ≤ 255 ∧ v = .int x t) ∨ ((x < l0 ∨ 255 < x) ∧ ∃ t', v = .str "FC" t')) ∧ n = news) (fun _ => False) := by
  subst e
  by_cases h : x < l ∨ 255 < x
  · exact (size_bad w x l t tl news h).mono (Nat.le_refl _) (Nat.le_refl _) (fun v n z => by obtain ⟨t', e, q⟩ := z; exact ⟨.inr ⟨h, t', e⟩, q⟩) fun _ z => z
  · exact (size_ok w x l t tl news (by omega) (by omega)).mono (Nat.le_refl _) (Nat.le_refl _) (fun v n z => ⟨.inl ⟨by omega, by omega, z.1⟩, z.2⟩) fun _ z => z
local macro_rules | `(tactic| k_all) => `(tactic| first | exact List.forall_mem_nil _ | exact all_up (by assumption) (by omega) | (refine' List.forall_mem_cons.mpr ⟨?a, ?b⟩; (case a => k_ne); (case b => k_all)))
set_option maxHeartbeats 16000000
section
noncomputable def stAt (l : List Stmt) (n : Nat) : Stmt := (l.drop n).headD (.Pass default)
noncomputable def szOne (wd : PySem.Str) (i : Nat) : Dv → Option PySem.Str
  | .s _ => some "TM"
  | .n y => if y < (if ((wd == "MID$") && ((i : Nat) : Int) == 1) = true then 1 else 0) ∨ 255 < y then some "FC" else none
noncomputable def szBad (wd : PySem.Str) : Nat → List Dv → Option PySem.Str
  | _, [] => none
  | i, d :: r => match szOne wd i d with
    | some k => some k
    | none => szBad wd (i + 1) r
theorem one_t {wd : PySem.Str} {i : Nat} {y : Int} (h : (wd == "MID$") = true) (b : y < (if (((i : Nat) : Int) == 1) = true then 1 else 0) ∨ 255 < y) : szOne wd i (.n y) = some "FC" := by
  rw [szOne, h, Bool.true_and]; exact if_pos b
theorem one_f {wd : PySem.Str} {i : Nat} {y : Int} (h : (wd == "MID$") = false) (b : y < (if (wd == "MID$") = true then 1 else 0) ∨ 255 < y) : szOne wd i (.n y) = some "FC" := by
  rw [h] at b; rw [szOne, h, Bool.false_and]; exact if_pos b
theorem ok_t {wd : PySem.Str} {i : Nat} {y : Int} (h : (wd == "MID$") = true) (b : (if (((i : Nat) : Int) == 1) = true then 1 else 0) ≤ y) (c : y ≤ 255) : szOne wd i (.n y) = none := by
  rw [szOne, h, Bool.true_and]; exact if_neg (by omega)
theorem ok_f {wd : PySem.Str} {i : Nat} {y : Int} (h : (wd == "MID$") = false) (b : (if (wd == "MID$") = true then 1 else 0) ≤ y) (c : y ≤ 255) : szOne wd i (.n y) = none := by
  rw [h] at b; rw [szOne, h, Bool.false_and]; exact if_neg (by omega)
theorem sz_hit {wd c : PySem.Str} {ds : List Dv} {d : Dv} {i : Nat} {r : Option PySem.Str} (hd : ds[i]? = some d) (h : szBad wd (i + 1) (ds.drop i) = r) (e : szOne wd (i + 1) d = some c) : r = some c := by
  obtain ⟨hi, q⟩ := List.getElem?_eq_some_iff.mp hd
  rw [← h, List.drop_eq_getElem_cons hi, q, szBad, e]
theorem sz_miss {wd : PySem.Str} {ds : List Dv} {d : Dv} {i : Nat} {r : Option PySem.Str} (hd : ds[i]? = some d) (h : szBad wd (i + 1) (ds.drop i) = r) (e : szOne wd (i + 1) d = none) : szBad wd (i + 1 + 1) (ds.drop (i + 1)) = r := by
  obtain ⟨hi, q⟩ := List.getElem?_eq_some_iff.mp hd
  rw [← h, List.drop_eq_getElem_cons hi, q, szBad, e]
theorem sz_end {wd : PySem.Str} {ds : List Dv} {r : Option PySem.Str} (h : szBad wd (ds.length + 1) (ds.drop ds.length) = r) : r = none := by
  rw [← h, List.drop_length, szBad]
theorem lt_for {w : World} {sco : Scope} {st : Stmt} {lo : List PySem.Str} {mean : ExcName → Option Value} {mg mb : PySem.Str → Option Value} {dp un : Nat} {gd : Option (List Code)} {outer : List Env} {A₀ : Around} {base h₀ : Heap} {L : Addr} {ccd : Value} {Q : Flow → Shared → Prop} {E : Value → Shared → Prop} {wd x : PySem.Str} {t tx : Tok} {ds : List Dv} {vs : List Value} {l k : Nat} {o1 o2 o3 : Obj} {news : List (Addr × Obj)} {hp0 : Heap} {gn0 : Array GenState} {dr0 : Drawn} {tk0 : Nat} {os0 : OsState} {m : PySem.Str → Option Value}
   (hsco : sco = scopeAt w.params 381) (hst : st = stAt (bodyAt w.params 381) 5)
   (B : Below A₀ base outer h₀) (X : (hd.heap_1 w.params).In h₀) (T : Top viewQ lo mean mg mb h₀) (hd0 : dp + 30 < 451) (hu0 : un + 300 < 903)
   (hP : PassesOwn (model PySem.Challenge.rw_pq1455_02.row.prog w) (ktrTop dp un gd (Str.ofString "_law_of_text") sco L 381 ccd (cellsFrom (L + 1) sco.names []) outer) (envOfC (Str.ofString "_law_of_text") sco L 381 ccd) E)
   (hwd : PyData.strOk wd = true) (h1 : (l, listObj (.str x tx :: vs) k) ∈ news) (l1 : ∀ p ∈ news, p.1 < L) (hA : ArgsAt ds vs) (hn : ds.length ≤ 9) (c3 : o3.data = .cell (some (.ref l)))
   (F : Fr h₀ L hp0 m) (N : News h₀ L hp0 ((L + 1 + 1 + 1, o1) :: (L + 1 + 1, o2) :: (L + 1, o3) :: news)) (hwm : m (Str.ofString "word") = some (.str wd t))
   (hQr : ∀ c a t1 t2 n h' tk' {m' : PySem.Str → Option Value}, szBad wd 1 ds = some c → (∀ p ∈ news, p.1 < a) → Fr h₀ L h' m' → News h₀ L h' ((a, tok2 "bad" t1 (.str c t2) n) :: news) → Q (.ret (.ref a)) ⟨h', gn0, dr0, tk', os0⟩)
   (hQn : ∀ h' tk' {m' : PySem.Str → Option Value}, szBad wd 1 ds = none → Fr h₀ L h' m' → m' (Str.ofString "word") = some (.str wd t) → News h₀ L h' ((L + 1 + 1 + 1, o1) :: (L + 1 + 1, o2) :: (L + 1, o3) :: news) → Q .next ⟨h', gn0, dr0, tk', os0⟩) :
   wpAny (model PySem.Challenge.rw_pq1455_02.row.prog w) (ktrTop dp un gd (Str.ofString "_law_of_text") sco L 381 ccd (cellsFrom (L + 1) sco.names []) outer) (exec st (envOfC (Str.ofString "_law_of_text") sco L 381 ccd)) Q E ⟨hp0, gn0, dr0, tk0, os0⟩ := by
  refine Box.out ?_
  simp (disch :=
    k_dflt ((
    refine keepP ?_
    subst hsco hst
    (rename Frag.In _ _ => X9; revert X9; k_fill; intro X9)
    conv in (occs := *) stAt _ _ => all_goals whnf
    conv in (occs := *) scopeAt _ _ => all_goals whnf
    have hlim := lim_is
    have hle : vs.length = ds.length := hA.1
    (repeat' (first | (k_unfold; (try dsimp only)) | (k_end; kc_close) | ((with_reducible show wpAny _ _ (exec (Stmt.For _ _ _ _ _) _) _ _ _); with_reducible ((k_here; (rename Fr _ _ _ _ => lF'); (with_unfolding_all refine' For_invVF lF' ?k1 ?k2 ?_; (case k1 => exact rfl); (case k2 => exact rfl); k_whole)))) | ((with_reducible show wpAny _ _ (pyIter _) _ _ _); with_reducible ((k_here; (with_reducible show wpAny _ _ (pyIter (Value.ref _)) (fun it s₂ => LoopAtV _ _ _ _ _ _ _ _ _ it s₂) _ _); refine hold ?_))) | ((with_reducible show wpAny _ _ (call (Value.ref _) _) _ _ _); first | with_reducible ((k_here; (with_reducible show wpAny _ _ (call (Value.ref 355) [Value.str _ _, Value.int _ _]) _ _ _); k_dflt (ktr_call z9 (size_s _ _ _ _ _ _); skip); (((case ke => exact fun _ _ _ _ _ _ hk9 => (show False from hk9).elim); intro v9 n9 h9 tk9 F9 N9 hv9; obtain ⟨t9, e1, e2⟩ := hv9; subst e1; replace e2 := e2.symm; subst e2; (try dsimp only); (try k_fold)))))) | ((with_reducible show wpAny _ _ (subscriptTail _ _ _ _) _ _ _); first | with_reducible ((k_here; (with_reducible show wpAny _ _ (subscriptTail _ _ (Value.ref _) (Value.int _ _)) _ _ _); (with_unfolding_all refine' item_list (News.isList ?n ?m) ?h0 ?hf ?hx ?_ ?hs ?hg; (case n => k_asm); (case m => tm_at "mem"); (case h0 => omega); (case hf => omega); (case hx => first | ((simp only [List.getElem?_toArray, Int.toNat_natCast]); assumption) | exact get0 | exact get1 | exact get2 | exact get3); (case hs => with_unfolding_all rfl); (case hg => intro _; with_unfolding_all rfl); k_whole)))) | ((with_reducible show wpAny _ _ (call (Value.builtin _) _) _ _ _); first | with_reducible ((k_here; (with_reducible show wpAny _ _ (call (Value.builtin _) [Value.ref _]) _ _ _); k_dflt (refine' len_list (News.isList ?n ?m) ?f ?_; (case n => k_asm); (case m => tm_at "mem"); (case f => first | (simp only [List.size_toArray]; omega) | (simp only [List.size_toArray, List.length_cons, List.length_nil]; omega)); k_whole); (try simp only [List.size_toArray, List.length_cons, List.length_nil])))) | walk1 | (dsimp only; walk1) | (leave1; (try dsimp only)) | fail "no step"))
    unfold Hold
    rename IsRange _ _ _ _ _ _ _ _ => hr9
    have hsz9 : Builtin.Range.rangeSize 1 (((vs.length + 1 : Nat) : Int)) 1 = ((ds.length : Nat) : Int) := by rw [rangeSize_one]; split <;> omega
    refine iter_rangeUnr (by rfl) hr9 (small_one (by omega) (by omega) (by omega) (by omega)) hsz9 (by k_asm) (by k_asm) ?_
    intro I ltI
    have ltA := allLt_of ltI
    refine range_ind (fun i m' n' => n' = ((L + 1 + 1 + 1, o1) :: (L + 1 + 1, o2) :: (L + 1, o3) :: news) ∧ m' (Str.ofString "word") = some (.str wd t) ∧ szBad wd (i + 1) (ds.drop i) = szBad wd 1 ds) ?_ ?_ _ 0 _ _ (Nat.zero_add _) ⟨rfl, hwm, rfl⟩
    · intro i m1 n1 hiN hJ t9 h9 tk9 Q2 hN hR F9 N9
      obtain ⟨rfl, hw9, hb9⟩ := hJ
      obtain ⟨d, hd⟩ : ∃ d, ds[i]? = some d := ⟨_, List.getElem?_eq_getElem hiN⟩
      obtain ⟨v, hv, hi⟩ := hA.2 i d hd
      have hv' : (Value.str x tx :: vs)[i + 1]? = some v := hv
      have hvl := lt_of_get hv'
      rw [show (1 : Int) + (i : Int) = ((i + 1 : Nat) : Int) by omega] at F9
      replace F9 : Fr h₀ L h9 (up m1 (Str.ofString "at") (.int ((i + 1 : Nat) : Int) t9)) := F9
      replace N9 : News h₀ L h9 _ := N9
      cases d with
      | s x2 =>
        obtain ⟨t2, rfl⟩ := hi
        (repeat' (first | (k_unfold; (try dsimp only)) | (k_end; kc_close) | ((with_reducible show wpAny _ _ (exec (Stmt.For _ _ _ _ _) _) _ _ _); with_reducible ((k_here; (rename Fr _ _ _ _ => lF'); (with_unfolding_all refine' For_invVF lF' ?k1 ?k2 ?_; (case k1 => exact rfl); (case k2 => exact rfl); k_whole)))) | ((with_reducible show wpAny _ _ (pyIter _) _ _ _); with_reducible ((k_here; (with_reducible show wpAny _ _ (pyIter (Value.ref _)) (fun it s₂ => LoopAtV _ _ _ _ _ _ _ _ _ it s₂) _ _); refine hold ?_))) | ((with_reducible show wpAny _ _ (call (Value.ref _) _) _ _ _); first | with_reducible ((k_here; (with_reducible show wpAny _ _ (call (Value.ref 355) [Value.str _ _, Value.int _ _]) _ _ _); k_dflt (ktr_call z9 (size_s _ _ _ _ _ _); skip); (((case ke => exact fun _ _ _ _ _ _ hk9 => (show False from hk9).elim); intro v9 n9 h9 tk9 F9 N9 hv9; obtain ⟨t9, e1, e2⟩ := hv9; subst e1; replace e2 := e2.symm; subst e2; (try dsimp only); (try k_fold)))))) | ((with_reducible show wpAny _ _ (subscriptTail _ _ _ _) _ _ _); first | with_reducible ((k_here; (with_reducible show wpAny _ _ (subscriptTail _ _ (Value.ref _) (Value.int _ _)) _ _ _); (with_unfolding_all refine' item_list (News.isList ?n ?m) ?h0 ?hf ?hx ?_ ?hs ?hg; (case n => k_asm); (case m => tm_at "mem"); (case h0 => omega); (case hf => omega); (case hx => first | ((simp only [List.getElem?_toArray, Int.toNat_natCast]); assumption) | exact get0 | exact get1 | exact get2 | exact get3); (case hs => with_unfolding_all rfl); (case hg => intro _; with_unfolding_all rfl); k_whole)))) | ((with_reducible show wpAny _ _ (call (Value.builtin _) _) _ _ _); first | with_reducible ((k_here; (with_reducible show wpAny _ _ (call (Value.builtin _) [Value.ref _]) _ _ _); k_dflt (refine' len_list (News.isList ?n ?m) ?f ?_; (case n => k_asm); (case m => tm_at "mem"); (case f => first | (simp only [List.size_toArray]; omega) | (simp only [List.size_toArray, List.length_cons, List.length_nil]; omega)); k_whole); (try simp only [List.size_toArray, List.length_cons, List.length_nil])))) | ((with_reducible show wpAny _ _ (call (Value.ref 355) [Value.int _ _, Value.int _ _]) _ _ _); k_dflt (ktr_call z9 (size_i _ _ _ _ rfl _ _ _)); (((case ke => exact fun _ _ _ _ _ _ hk9 => (show False from hk9).elim); intro v9 n9 h9 tk9 F9 N9 hv9; obtain ⟨hv9, e2⟩ := hv9; replace e2 := e2.symm; subst e2; rcases hv9 with ⟨lo9, hi9, e1⟩ | ⟨bad9, t9, e1⟩; all_goals (subst e1; (try dsimp only); (try k_fold))))) | walk1 | (dsimp only; walk1) | (leave1; (try dsimp only)) | fail "no step"))
        all_goals exact hR _ _ (hQr _ _ _ _ _ _ _ (sz_hit hd hb9 rfl) (allLt_mem _ (by walk_at "my_allLt")) (by k_asm) (dropx (by k_asm) (by walk_at "my_subs")))
      | n y =>
        obtain ⟨t2, rfl⟩ := hi
        (repeat' (first | (k_unfold; (try dsimp only)) | (k_end; kc_close) | ((with_reducible show wpAny _ _ (exec (Stmt.For _ _ _ _ _) _) _ _ _); with_reducible ((k_here; (rename Fr _ _ _ _ => lF'); (with_unfolding_all refine' For_invVF lF' ?k1 ?k2 ?_; (case k1 => exact rfl); (case k2 => exact rfl); k_whole)))) | ((with_reducible show wpAny _ _ (pyIter _) _ _ _); with_reducible ((k_here; (with_reducible show wpAny _ _ (pyIter (Value.ref _)) (fun it s₂ => LoopAtV _ _ _ _ _ _ _ _ _ it s₂) _ _); refine hold ?_))) | ((with_reducible show wpAny _ _ (call (Value.ref _) _) _ _ _); first | with_reducible ((k_here; (with_reducible show wpAny _ _ (call (Value.ref 355) [Value.str _ _, Value.int _ _]) _ _ _); k_dflt (ktr_call z9 (size_s _ _ _ _ _ _); skip); (((case ke => exact fun _ _ _ _ _ _ hk9 => (show False from hk9).elim); intro v9 n9 h9 tk9 F9 N9 hv9; obtain ⟨t9, e1, e2⟩ := hv9; subst e1; replace e2 := e2.symm; subst e2; (try dsimp only); (try k_fold)))))) | ((with_reducible show wpAny _ _ (subscriptTail _ _ _ _) _ _ _); first | with_reducible ((k_here; (with_reducible show wpAny _ _ (subscriptTail _ _ (Value.ref _) (Value.int _ _)) _ _ _); (with_unfolding_all refine' item_list (News.isList ?n ?m) ?h0 ?hf ?hx ?_ ?hs ?hg; (case n => k_asm); (case m => tm_at "mem"); (case h0 => omega); (case hf => omega); (case hx => first | ((simp only [List.getElem?_toArray, Int.toNat_natCast]); assumption) | exact get0 | exact get1 | exact get2 | exact get3); (case hs => with_unfolding_all rfl); (case hg => intro _; with_unfolding_all rfl); k_whole)))) | ((with_reducible show wpAny _ _ (call (Value.builtin _) _) _ _ _); first | with_reducible ((k_here; (with_reducible show wpAny _ _ (call (Value.builtin _) [Value.ref _]) _ _ _); k_dflt (refine' len_list (News.isList ?n ?m) ?f ?_; (case n => k_asm); (case m => tm_at "mem"); (case f => first | (simp only [List.size_toArray]; omega) | (simp only [List.size_toArray, List.length_cons, List.length_nil]; omega)); k_whole); (try simp only [List.size_toArray, List.length_cons, List.length_nil])))) | ((with_reducible show wpAny _ _ (call (Value.ref 355) [Value.int _ _, Value.int _ _]) _ _ _); k_dflt (ktr_call z9 (size_i _ _ _ _ rfl _ _ _)); (((case ke => exact fun _ _ _ _ _ _ hk9 => (show False from hk9).elim); intro v9 n9 h9 tk9 F9 N9 hv9; obtain ⟨hv9, e2⟩ := hv9; replace e2 := e2.symm; subst e2; rcases hv9 with ⟨lo9, hi9, e1⟩ | ⟨bad9, t9, e1⟩; all_goals (subst e1; (try dsimp only); (try k_fold))))) | walk1 | (dsimp only; walk1) | (leave1; (try dsimp only)) | fail "no step"))
        all_goals first | exact hN _ _ _ _ (by k_asm) (dropx (by k_asm) (by walk_at "my_subs")) (fun p hp => Nat.ne_of_lt (ltI p hp)) ⟨rfl, (by (try dsimp only); tm_at "lk"), sz_miss hd hb9 (ok_t (by assumption) (by assumption) (by assumption))⟩ | exact hN _ _ _ _ (by k_asm) (dropx (by k_asm) (by walk_at "my_subs")) (fun p hp => Nat.ne_of_lt (ltI p hp)) ⟨rfl, (by (try dsimp only); tm_at "lk"), sz_miss hd hb9 (ok_f (by assumption) (by assumption) (by assumption))⟩ | exact hR _ _ (hQr _ _ _ _ _ _ _ (sz_hit hd hb9 (one_t (by assumption) (by assumption))) (allLt_mem _ (by walk_at "my_allLt")) (by k_asm) (dropx (by k_asm) (by walk_at "my_subs"))) | exact hR _ _ (hQr _ _ _ _ _ _ _ (sz_hit hd hb9 (one_f (by assumption) (by assumption))) (allLt_mem _ (by walk_at "my_allLt")) (by k_asm) (dropx (by k_asm) (by walk_at "my_subs")))
    · intro m1 n1 hJ h9 tk9 F9 N9
      obtain ⟨rfl, hw9, hb9⟩ := hJ
      exact hQn _ _ (sz_end hb9) F9 hw9 N9))) only [↓boxed]
end
theorem lt_head {w : World} {sco : Scope} {body rest : List Stmt} {lo : List PySem.Str} {mean : ExcName → Option Value} {mg mb : PySem.Str → Option Value} {dp un : Nat} {gd : Option (List Code)} {outer : List Env} {A₀ : Around} {base h₀ : Heap} {L : Addr} {ccd : Value} {Q : Flow → Shared → Prop} {E : Value → Shared → Prop} {wd x : PySem.Str} {t tx : Tok} {ds : List Dv} {vs : List Value} {l k : Nat} {o1 o2 o3 : Obj} {news : List (Addr × Obj)} {hp0 : Heap} {gn0 : Array GenState} {dr0 : Drawn} {tk0 : Nat} {os0 : OsState} {m : PySem.Str → Option Value}
   (hsco : sco = scopeAt w.params 381) (hb : body = bodyAt w.params 381) (hr : rest = (bodyAt w.params 381).drop 6)
   (B : Below A₀ base outer h₀) (X : (hd.heap_1 w.params).In h₀) (T : Top viewQ lo mean mg mb h₀) (hd0 : dp + 30 < 451) (hu0 : un + 300 < 903)
   (hP : PassesOwn (model PySem.Challenge.rw_pq1455_02.row.prog w) (ktrTop dp un gd (Str.ofString "_law_of_text") sco L 381 ccd (cellsFrom (L + 1) sco.names []) outer) (envOfC (Str.ofString "_law_of_text") sco L 381 ccd) E)
   (hwd : PyData.strOk wd = true) (q1 : (wd == "LEN") = false) (q2 : (wd == "VAL") = false) (q3 : (wd == "ASC") = false) (h1 : (l, listObj (.str x tx :: vs) k) ∈ news) (l1 : ∀ p ∈ news, p.1 < L) (hA : ArgsAt ds vs) (hn : ds.length ≤ 9) (c3 : o3.data = .cell (some (.ref l)))
   (F : Fr h₀ L hp0 m) (N : News h₀ L hp0 ((L + 1 + 1 + 1, o1) :: (L + 1 + 1, o2) :: (L + 1, o3) :: news)) (hwm : m (Str.ofString "word") = some (.str wd t)) (c2 : o2.data = .cell none)
   (hQr : ∀ c a t1 t2 n h' tk' {m' : PySem.Str → Option Value}, szBad wd 1 ds = some c → (∀ p ∈ news, p.1 < a) → Fr h₀ L h' m' → News h₀ L h' ((a, tok2 "bad" t1 (.str c t2) n) :: news) → Q (.ret (.ref a)) ⟨h', gn0, dr0, tk', os0⟩)
   (hQn : ∀ h' tk' o2' {m' : PySem.Str → Option Value}, szBad wd 1 ds = none → o2'.data = .cell (some (.str x tx)) → Fr h₀ L h' m' → m' (Str.ofString "word") = some (.str wd t) → News h₀ L h' ((L + 1 + 1 + 1, o1) :: (L + 1 + 1, o2') :: (L + 1, o3) :: news) → wpAny (model PySem.Challenge.rw_pq1455_02.row.prog w) (ktrTop dp un gd (Str.ofString "_law_of_text") sco L 381 ccd (cellsFrom (L + 1) sco.names []) outer) (execs rest (envOfC (Str.ofString "_law_of_text") sco L 381 ccd)) Q E ⟨h', gn0, dr0, tk', os0⟩) :
   wpAny (model PySem.Challenge.rw_pq1455_02.row.prog w) (ktrTop dp un gd (Str.ofString "_law_of_text") sco L 381 ccd (cellsFrom (L + 1) sco.names []) outer) (execs body (envOfC (Str.ofString "_law_of_text") sco L 381 ccd)) Q E ⟨hp0, gn0, dr0, tk0, os0⟩ := by
  subst hsco hb hr
  (rename Frag.In _ _ => X9; revert X9; k_fill; intro X9)
  conv in (occs := *) bodyAt _ _ => all_goals whnf
  conv in (occs := *) scopeAt _ _ => all_goals whnf
  have hlim := lim_is
  have hle : vs.length = ds.length := hA.1
  (repeat' (first | (k_unfold; (try dsimp only)) | (k_end; kc_close) | ((with_reducible show wpAny _ _ (subscriptTail _ _ _ _) _ _ _); first | with_reducible ((k_here; (with_reducible show wpAny _ _ (subscriptTail _ _ (Value.ref _) (Value.int _ _)) _ _ _); (with_unfolding_all refine' item_list (News.isList ?n ?m) ?h0 ?hf ?hx ?_ ?hs ?hg; (case n => k_asm); (case m => tm_at "mem"); (case h0 => omega); (case hf => omega); (case hx => first | ((simp only [List.getElem?_toArray, Int.toNat_natCast]); assumption) | exact get0 | exact get1 | exact get2 | exact get3); (case hs => with_unfolding_all rfl); (case hg => intro _; with_unfolding_all rfl); k_whole)))) | ((with_reducible show wpAny _ _ (exec (Stmt.For _ _ _ _ _) _) _ _ _); refine held ?_) | walk1 | (dsimp only; walk1) | (leave1; (try dsimp only)) | fail "no step"))
  unfold Held
  refine lt_for (by kernel_rfl) (by kernel_rfl) B X9 T hd0 hu0 hP hwd h1 l1 hA hn c3 (by k_asm) (by k_asm) hwm (fun c a t1 t2 n h' tk' m' e lt F N => hQr c a t1 t2 n h' tk' e lt F N) (fun h' tk' m' e F hw N => hQn h' tk' _ e (by assumption) F hw N)
/-- what _law_of_text's body must do in its own frame, its three cells known -/
abbrev LtBod (w : World) (wd : PySem.Str) (t : Tok) (l : Addr) (news : List (Addr × Obj)) (Ret : Value → List (Addr × Obj) → Prop) : Prop :=
  ∀ (sco : Scope) (body : List Stmt) (ccd : Value) (lo : List PySem.Str) (mean : ExcName → Option Value) (mg mb : PySem.Str → Option Value) (dp un : Nat) (gd : Option (List Code)) (outer : List Env) (A₀ : Around) (base h₀ : Heap) (L : Addr) (hp0 : Heap) (gn0 : Array GenState) (dr0 : Drawn) (tk0 : Nat) (os0 : OsState) (Q : Flow → Shared → Prop) (E : Value → Shared → Prop) (o1 o2 o3 : Obj) (m : PySem.Str → Option Value),
   sco = scopeAt w.params 381 → body = bodyAt w.params 381 → Below A₀ base outer h₀ → (hd.heap_1 w.params).In h₀ → Top viewQ lo mean mg mb h₀ → dp + 30 < 451 → un + 300 < 903 →
   PassesOwn (model PySem.Challenge.rw_pq1455_02.row.prog w) (ktrTop dp un gd (Str.ofString "_law_of_text") sco L 381 ccd (cellsFrom (L + 1) sco.names []) outer) (envOfC (Str.ofString "_law_of_text") sco L 381 ccd) E → (∀ p ∈ news, p.1 < L) → Fr h₀ L hp0 m → News h₀ L hp0 ((L + 1 + 1 + 1, o1) :: (L + 1 + 1, o2) :: (L + 1, o3) :: news) → m (Str.ofString "word") = some (.str wd t) → o1.data = .cell none → o2.data = .cell none → o3.data = .cell (some (.ref l)) →
   (∀ v news' h' tk' {m' : PySem.Str → Option Value}, Fr h₀ L h' m' → News h₀ L h' news' → Ret v news' → Q (.ret v) ⟨h', gn0, dr0, tk', os0⟩) →
   wpAny (model PySem.Challenge.rw_pq1455_02.row.prog w) (ktrTop dp un gd (Str.ofString "_law_of_text") sco L 381 ccd (cellsFrom (L + 1) sco.names []) outer) (execs body (envOfC (Str.ofString "_law_of_text") sco L 381 ccd)) Q E ⟨hp0, gn0, dr0, tk0, os0⟩
theorem lt_go {w : World} {wd : PySem.Str} {t : Tok} {l : Addr} {news : List (Addr × Obj)} {Ret : Value → List (Addr × Obj) → Prop} (h : LtBod w wd t l news Ret) : Tel w 381 [.str wd t, .ref l] 30 300 news Ret (fun _ => False) := by
  ((k_dflt (refine' Tel.enterC ?h ?ho ?hcd ?hb ?hkd ?hnd ?hm ?c1 ?c2 ?c3; (case' h => (unfold BodC; k_fill)); (case ho => k_is); (case hcd => k_is); (case hb => exact fun _ => BindsTo.of_eq rfl); (case hkd => exact rfl); (case hnd => decide +kernel); (case hm => exact fun _ _ => bl2 (by kernel_rfl) (by kernel_rfl)); (case c1 => exact rfl); (case c2 => exact rfl); (case c3 => exact rfl))))
  intro lo mean mg mb dp un gd outer A₀ base h₀ L hp0 gn0 dr0 tk0 os0 Q E cells B F X N Y T l1 hd0 hu0 hP hret
  have hlim := lim_is
  (try k_lt l1)
  k_cells Y
  (try simp only [List.cons_append, List.nil_append] at N)
  (try dsimp only)
  rename_i c1 c2 c3
  exact h _ _ _ _ _ _ _ _ _ _ _ _ _ _ _ _ _ _ _ _ _ _ _ _ _ _ (by kernel_rfl) (by kernel_rfl) B X T hd0 hu0 hP l1 F N rfl (c1.trans (congrArg Data.cell (by kernel_rfl))) (c2.trans (congrArg Data.cell (by kernel_rfl))) (c3.trans (congrArg Data.cell (by kernel_rfl))) hret
theorem lt_bad (w : World) (wd : PySem.Str) (hwd : PyData.strOk wd = true) (q1 : (wd == "LEN") = false) (q2 : (wd == "VAL") = false) (q3 : (wd == "ASC") = false) (x : PySem.Str) (tx : Tok) (ds : List Dv) (vs : List Value) (hA : ArgsAt ds vs) (hn : ds.length ≤ 9) (c : PySem.Str) (hc : szBad wd 1 ds = some c) (t : Tok) (l k : Nat) (news : List (Addr × Obj)) (h1 : (l, listObj (.str x tx :: vs) k) ∈ news) : Tel w 381 [.str wd t, .ref l] 30 300 news (RetDue (.bad c) news) (fun _ => False) := by
  refine lt_go fun sco body ccd lo mean mg mb dp un gd outer A₀ base h₀ L hp0 gn0 dr0 tk0 os0 Q E o1 o2 o3 m hsco hb B X T hd0 hu0 hP l1 F N hm c1 c2 c3 hret => ?_
  refine lt_head hsco hb rfl B X T hd0 hu0 hP hwd q1 q2 q3 h1 l1 hA hn c3 F N hm c2 (fun c' a t1 t2 n h' tk' m' e lt F N => ?_) (fun h' tk' o2' m' e _ _ _ _ => absurd (hc.symm.trans e) (by simp))
  cases hc.symm.trans e
  exact hret _ _ _ _ F N ⟨_, _, rfl, fun p hp => Nat.ne_of_lt (lt p hp), due_bad rfl, rfl⟩
theorem lt_tm (w : World) (wd : PySem.Str) (hwd : PyData.strOk wd = true) (y : Int) (ty : Tok) (r : List Value) (t : Tok) (l k : Nat) (news : List (Addr × Obj)) (h1 : (l, listObj (.int y ty :: r) k) ∈ news)  : Tel w 381 [.str wd t, .ref l] 30 300 news (RetDue (.bad "TM") news) (fun _ => False) := by
  refine Box.out ?_
  simp (disch :=
    k_dflt ((
    refine keepP ?_
    refine lt_go fun sco body ccd lo mean mg mb dp un gd outer A₀ base h₀ L hp0 gn0 dr0 tk0 os0 Q E o1 o2 o3 m hsco hb B X T hd0 hu0 hP l1 F N hm c1 c2 c3 hret => ?_
    subst hsco hb
    (rename Frag.In _ _ => X9; revert X9; k_fill; intro X9)
    conv in (occs := *) bodyAt _ _ => all_goals whnf
    conv in (occs := *) scopeAt _ _ => all_goals whnf
    have hlim := lim_is
    (repeat' (first | (k_unfold; (try dsimp only)) | (k_end; kc_close) | ((with_reducible show wpAny _ _ (subscriptTail _ _ _ _) _ _ _); first | with_reducible ((k_here; (with_reducible show wpAny _ _ (subscriptTail _ _ (Value.ref _) (Value.int _ _)) _ _ _); (with_unfolding_all refine' item_list (News.isList ?n ?m) ?h0 ?hf ?hx ?_ ?hs ?hg; (case n => k_asm); (case m => tm_at "mem"); (case h0 => omega); (case hf => omega); (case hx => first | ((simp only [List.getElem?_toArray, Int.toNat_natCast]); assumption) | exact get0 | exact get1 | exact get2 | exact get3); (case hs => with_unfolding_all rfl); (case hg => intro _; with_unfolding_all rfl); k_whole)))) | walk1 | (dsimp only; walk1) | (leave1; (try dsimp only)) | fail "no step"))
    all_goals first | exact hret _ ((_, tok2 _ _ _ _) :: news) _ _ (by k_asm) (dropx (by k_asm) (by walk_at "my_subs")) ⟨_, _, rfl, fun p hp => Nat.ne_of_lt (allLt_mem _ (by walk_at "my_allLt") p hp), due_bad rfl, rfl⟩))) only [↓boxed]
theorem lt_len (w : World) (x : PySem.Str) (hok : PyData.strOk x = true) (hx : x.length ≤ 100) (hasc : x.cps.all (· < 128) = true) (tx : Tok) (t : Tok) (l k : Nat) (news : List (Addr × Obj)) (h1 : (l, listObj [.str x tx] k) ∈ news)  : Tel w 381 [.str "LEN" t, .ref l] 30 300 news (RetDue (.ok (.n x.length)) news) (fun _ => False) := by
  refine Box.out ?_
  simp (disch :=
    k_dflt ((
    refine keepP ?_
    refine lt_go fun sco body ccd lo mean mg mb dp un gd outer A₀ base h₀ L hp0 gn0 dr0 tk0 os0 Q E o1 o2 o3 m hsco hb B X T hd0 hu0 hP l1 F N hm c1 c2 c3 hret => ?_
    have hsz : x.cps.size ≤ 100 := hx
    subst hsco hb
    (rename Frag.In _ _ => X9; revert X9; k_fill; intro X9)
    conv in (occs := *) bodyAt _ _ => all_goals whnf
    conv in (occs := *) scopeAt _ _ => all_goals whnf
    have hlim := lim_is
    (repeat' (first | (k_unfold; (try dsimp only)) | (k_end; kc_close) | ((with_reducible show wpAny _ _ (subscriptTail _ _ _ _) _ _ _); first | with_reducible ((k_here; (with_reducible show wpAny _ _ (subscriptTail _ _ (Value.ref _) (Value.int _ _)) _ _ _); (with_unfolding_all refine' item_list (News.isList ?n ?m) ?h0 ?hf ?hx ?_ ?hs ?hg; (case n => k_asm); (case m => tm_at "mem"); (case h0 => omega); (case hf => omega); (case hx => first | ((simp only [List.getElem?_toArray, Int.toNat_natCast]); assumption) | exact get0 | exact get1 | exact get2 | exact get3); (case hs => with_unfolding_all rfl); (case hg => intro _; with_unfolding_all rfl); k_whole)))) | walk1 | (dsimp only; walk1) | (leave1; (try dsimp only)) | fail "no step"))
    all_goals first | exact hret _ ((_, tok2 _ _ _ _) :: news) _ _ (by k_asm) (dropx (by k_asm) (by walk_at "my_subs")) ⟨_, _, rfl, fun p hp => Nat.ne_of_lt (allLt_mem _ (by walk_at "my_allLt") p hp), due_int rfl rfl, rfl⟩))) only [↓boxed]
theorem lt_val (w : World) (x : PySem.Str) (hok : PyData.strOk x = true) (hx : x.length ≤ 100) (hasc : x.cps.all (· < 128) = true) (tx : Tok) (R : Res) (hV : ∀ (t : Tok) (big : List (Addr × Obj)), Tel w 369 [.str x t] 20 200 big (RetDue R big) (fun _ => False)) (t : Tok) (l k : Nat) (news : List (Addr × Obj)) (h1 : (l, listObj [.str x tx] k) ∈ news)  : Tel w 381 [.str "VAL" t, .ref l] 30 300 news (RetDue R news) (fun _ => False) := by
  refine Box.out ?_
  simp (disch :=
    k_dflt ((
    refine keepP ?_
    refine lt_go fun sco body ccd lo mean mg mb dp un gd outer A₀ base h₀ L hp0 gn0 dr0 tk0 os0 Q E o1 o2 o3 m hsco hb B X T hd0 hu0 hP l1 F N hm c1 c2 c3 hret => ?_
    have hsz : x.cps.size ≤ 100 := hx
    subst hsco hb
    (rename Frag.In _ _ => X9; revert X9; k_fill; intro X9)
    conv in (occs := *) bodyAt _ _ => all_goals whnf
    conv in (occs := *) scopeAt _ _ => all_goals whnf
    have hlim := lim_is
    (repeat' (first | (k_unfold; (try dsimp only)) | (k_end; kc_close) | ((with_reducible show wpAny _ _ (call (Value.ref _) _) _ _ _); first | with_reducible ((k_here; (with_reducible show wpAny _ _ (call (Value.ref 369) [Value.str _ _]) _ _ _); k_dflt ((rename (∀ t big, Tel _ 369 _ _ _ _ _ _) => hV9); ktr_call z9 (hV9 _ _)); (((case ke => exact fun _ _ _ _ _ _ hk9 => (show False from hk9).elim); intro v9 n9 h9 tk9 F9 N9 hv9; (unfold RetDue at hv9); obtain ⟨a9, o9, e1, lt9, du9, e2⟩ := hv9; subst e1; replace e2 := e2.symm; subst e2; (try dsimp only); (try k_fold)))))) | ((with_reducible show wpAny _ _ (subscriptTail _ _ _ _) _ _ _); first | with_reducible ((k_here; (with_reducible show wpAny _ _ (subscriptTail _ _ (Value.ref _) (Value.int _ _)) _ _ _); (with_unfolding_all refine' item_list (News.isList ?n ?m) ?h0 ?hf ?hx ?_ ?hs ?hg; (case n => k_asm); (case m => tm_at "mem"); (case h0 => omega); (case hf => omega); (case hx => first | ((simp only [List.getElem?_toArray, Int.toNat_natCast]); assumption) | exact get0 | exact get1 | exact get2 | exact get3); (case hs => with_unfolding_all rfl); (case hg => intro _; with_unfolding_all rfl); k_whole)))) | walk1 | (dsimp only; walk1) | (leave1; (try dsimp only)) | fail "no step"))
    all_goals first | exact hret _ ((_, _) :: news) _ _ (by k_asm) (dropx (by k_asm) (by walk_at "my_subs")) ⟨_, _, rfl, fun p hp => (by (rename (∀ p ∈ _, Prod.fst p ≠ _) => q9); exact q9 p (by simp only [List.mem_cons, hp, or_true])), by assumption, rfl⟩))) only [↓boxed]
theorem lt_asc (w : World) (x : PySem.Str) (hok : PyData.strOk x = true) (hx : x.length ≤ 100) (hasc : x.cps.all (· < 128) = true) (tx : Tok) (hx1 : (x != "") = true) (hx2 : 0 < x.length) (t : Tok) (l k : Nat) (news : List (Addr × Obj)) (h1 : (l, listObj [.str x tx] k) ∈ news)  : Tel w 381 [.str "ASC" t, .ref l] 30 300 news (RetDue (.ok (.n ((Txt.item x 0).cps.getD 0 0 : Nat))) news) (fun _ => False) := by
  refine Box.out ?_
  simp (disch :=
    k_dflt ((
    refine keepP ?_
    refine lt_go fun sco body ccd lo mean mg mb dp un gd outer A₀ base h₀ L hp0 gn0 dr0 tk0 os0 Q E o1 o2 o3 m hsco hb B X T hd0 hu0 hP l1 F N hm c1 c2 c3 hret => ?_
    have hsz : x.cps.size ≤ 100 := hx
    subst hsco hb
    (rename Frag.In _ _ => X9; revert X9; k_fill; intro X9)
    conv in (occs := *) bodyAt _ _ => all_goals whnf
    conv in (occs := *) scopeAt _ _ => all_goals whnf
    have hlim := lim_is
    (repeat' (first | (k_unfold; (try dsimp only)) | (k_end; kc_close) | ((with_reducible show wpAny _ _ (subscriptTail _ _ _ _) _ _ _); first | with_reducible ((k_here; (with_reducible show wpAny _ _ (subscriptTail _ _ (Value.ref _) (Value.int _ _)) _ _ _); (with_unfolding_all refine' item_list (News.isList ?n ?m) ?h0 ?hf ?hx ?_ ?hs ?hg; (case n => k_asm); (case m => tm_at "mem"); (case h0 => omega); (case hf => omega); (case hx => first | ((simp only [List.getElem?_toArray, Int.toNat_natCast]); assumption) | exact get0 | exact get1 | exact get2 | exact get3); (case hs => with_unfolding_all rfl); (case hg => intro _; with_unfolding_all rfl); k_whole)))) | walk1 | (dsimp only; walk1) | (leave1; (try dsimp only)) | fail "no step"))
    all_goals first | exact hret _ ((_, tok2 _ _ _ _) :: news) _ _ (by k_asm) (dropx (by k_asm) (by walk_at "my_subs")) ⟨_, _, rfl, fun p hp => Nat.ne_of_lt (allLt_mem _ (by walk_at "my_allLt") p hp), due_int rfl rfl, rfl⟩))) only [↓boxed]
theorem lt_asc0 (w : World) (tx : Tok) (t : Tok) (l k : Nat) (news : List (Addr × Obj)) (h1 : (l, listObj [.str "" tx] k) ∈ news)  : Tel w 381 [.str "ASC" t, .ref l] 30 300 news (RetDue (.bad "FC") news) (fun _ => False) := by
  refine Box.out ?_
  simp (disch :=
    k_dflt ((
    refine keepP ?_
    refine lt_go fun sco body ccd lo mean mg mb dp un gd outer A₀ base h₀ L hp0 gn0 dr0 tk0 os0 Q E o1 o2 o3 m hsco hb B X T hd0 hu0 hP l1 F N hm c1 c2 c3 hret => ?_
    subst hsco hb
    (rename Frag.In _ _ => X9; revert X9; k_fill; intro X9)
    conv in (occs := *) bodyAt _ _ => all_goals whnf
    conv in (occs := *) scopeAt _ _ => all_goals whnf
    have hlim := lim_is
    (repeat' (first | (k_unfold; (try dsimp only)) | (k_end; kc_close) | ((with_reducible show wpAny _ _ (subscriptTail _ _ _ _) _ _ _); first | with_reducible ((k_here; (with_reducible show wpAny _ _ (subscriptTail _ _ (Value.ref _) (Value.int _ _)) _ _ _); (with_unfolding_all refine' item_list (News.isList ?n ?m) ?h0 ?hf ?hx ?_ ?hs ?hg; (case n => k_asm); (case m => tm_at "mem"); (case h0 => omega); (case hf => omega); (case hx => first | ((simp only [List.getElem?_toArray, Int.toNat_natCast]); assumption) | exact get0 | exact get1 | exact get2 | exact get3); (case hs => with_unfolding_all rfl); (case hg => intro _; with_unfolding_all rfl); k_whole)))) | walk1 | (dsimp only; walk1) | (leave1; (try dsimp only)) | fail "no step"))
    all_goals first | exact hret _ ((_, tok2 _ _ _ _) :: news) _ _ (by k_asm) (dropx (by k_asm) (by walk_at "my_subs")) ⟨_, _, rfl, fun p hp => Nat.ne_of_lt (allLt_mem _ (by walk_at "my_allLt") p hp), due_bad rfl, rfl⟩))) only [↓boxed]

theorem lt_left0 (w : World) (x : PySem.Str) (hok : PyData.strOk x = true) (hx : x.length ≤ 100) (hasc : x.cps.all (· < 128) = true) (tx : Tok) (ds : List Dv) (y : Int) (ty : Tok) (r : List Value) (hA : ArgsAt ds (.int y ty :: r)) (hn : ds.length ≤ 9) (hc : szBad "LEFT$" 1 ds = none) (zz : PySem.Str) (hz : zz = Txt.join "" (selU (fun i => decide ((i : Int) < y)) x.cps x.cps.size)) (t : Tok) (l k : Nat) (news : List (Addr × Obj)) (h1 : (l, listObj (.str x tx :: (.int y ty :: r)) k) ∈ news) : Tel w 381 [.str "LEFT$" t, .ref l] 30 300 news (RetDue (.ok (.s zz)) news) (fun _ => False) := by
  refine Box.out ?_
  simp (disch :=
    k_dflt ((
    refine keepP ?_
    refine lt_go fun sco body ccd lo mean mg mb dp un gd outer A₀ base h₀ L hp0 gn0 dr0 tk0 os0 Q E o1 o2 o3 m hsco hb B X T hd0 hu0 hP l1 F N hm c1 c2 c3 hret => ?_
    refine lt_head hsco hb rfl B X T hd0 hu0 hP (by decide +kernel) (by decide +kernel) (by decide +kernel) (by decide +kernel) h1 l1 hA hn c3 F N hm c2 (fun c' a t1 t2 n h' tk' m' e lt F N => absurd (hc.symm.trans e) (by simp)) (fun h' tk' o2' m' e c2' F2 hw N2 => ?_)
    · have hsz : x.cps.size ≤ 100 := hx
      clear F N c2 hm e
      subst hsco hb
      (rename Frag.In _ _ => X9; revert X9; k_fill; intro X9)
      conv in (occs := *) List.drop _ (bodyAt _ _) => all_goals whnf
      conv in (occs := *) scopeAt _ _ => all_goals whnf
      have hlim := lim_is
      (try dsimp only)
      (repeat' (first | (k_unfold; (try dsimp only)) | (k_end; kc_close) | ((with_reducible show wpAny _ _ (eval (Expr.ListComp _ _ _ _) _) _ _ _); with_reducible ((k_here; refine hold ?_))) | ((with_reducible show wpAny _ _ (call (Value.builtin _) _) _ _ _); first | with_reducible ((k_here; (with_reducible show wpAny _ _ (call (Value.builtin "str.join") [Value.str _ _, Value.ref _]) _ _ _); k_dflt (refine join_listW (isl (by k_asm) (by tm_at "mem")) (by assumption) (by decide +kernel) (by first | assumption | (refine Nat.le_trans (selU_weight _ _ _) ?_; omega)) ?_); intro t' k'))) | ((with_reducible show wpAny _ _ (call (Value.type _) _) _ _ _); first | with_reducible ((k_here; (with_reducible show wpAny _ _ (call (Value.type _) [Value.str _ _]) _ _ _); k_dflt (refine ec_call (by assumption) _ _ rfl (by k_asm) (by k_asm))))) | ((with_reducible show wpAny _ _ (subscriptTail _ _ _ _) _ _ _); first | with_reducible ((k_here; (with_reducible show wpAny _ _ (subscriptTail _ _ (Value.ref _) (Value.int _ _)) _ _ _); (with_unfolding_all refine' item_list (News.isList ?n ?m) ?h0 ?hf ?hx ?_ ?hs ?hg; (case n => k_asm); (case m => tm_at "mem"); (case h0 => omega); (case hf => omega); (case hx => first | ((simp only [List.getElem?_toArray, Int.toNat_natCast]); assumption) | exact get0 | exact get1 | exact get2 | exact get3); (case hs => with_unfolding_all rfl); (case hg => intro _; with_unfolding_all rfl); k_whole)))) | walk1 | (dsimp only; walk1) | (leave1; (try dsimp only)) | fail "no step"))
      unfold Hold
      refine ec_go (x := x) (fun i => decide ((i : Int) < y)) (by k_asm) (by k_asm) (by rfl) (by with_unfolding_all rfl) (by decide) (by rfl) (by decide) (by rfl) (by rfl) (by decide +kernel) (by decide) (Nat.le_trans (show x.cps.size ≤ 100 from hx) (by decide)) (by intro _; rfl) ?_ ?_ ?_
      · (repeat' (first | (k_unfold; (try dsimp only)) | (k_end; kc_close) | ((with_reducible show wpAny _ _ (eval (Expr.ListComp _ _ _ _) _) _ _ _); with_reducible ((k_here; refine hold ?_))) | ((with_reducible show wpAny _ _ (call (Value.builtin _) _) _ _ _); first | with_reducible ((k_here; (with_reducible show wpAny _ _ (call (Value.builtin "str.join") [Value.str _ _, Value.ref _]) _ _ _); k_dflt (refine join_listW (isl (by k_asm) (by tm_at "mem")) (by assumption) (by decide +kernel) (by first | assumption | (refine Nat.le_trans (selU_weight _ _ _) ?_; omega)) ?_); intro t' k'))) | ((with_reducible show wpAny _ _ (call (Value.type _) _) _ _ _); first | with_reducible ((k_here; (with_reducible show wpAny _ _ (call (Value.type _) [Value.str _ _]) _ _ _); k_dflt (refine ec_call (by assumption) _ _ rfl (by k_asm) (by k_asm))))) | ((with_reducible show wpAny _ _ (subscriptTail _ _ _ _) _ _ _); first | with_reducible ((k_here; (with_reducible show wpAny _ _ (subscriptTail _ _ (Value.ref _) (Value.int _ _)) _ _ _); (with_unfolding_all refine' item_list (News.isList ?n ?m) ?h0 ?hf ?hx ?_ ?hs ?hg; (case n => k_asm); (case m => tm_at "mem"); (case h0 => omega); (case hf => omega); (case hx => first | ((simp only [List.getElem?_toArray, Int.toNat_natCast]); assumption) | exact get0 | exact get1 | exact get2 | exact get3); (case hs => with_unfolding_all rfl); (case hg => intro _; with_unfolding_all rfl); k_whole)))) | walk1 | (dsimp only; walk1) | (leave1; (try dsimp only)) | fail "no step"))
      · intro i ch t9 u9 C9 oC9 m9 h9 tk9 E9 hch hC9 ha9 hb9 F9 N9
        (repeat' (first | (k_unfold; (try dsimp only)) | (k_end; kc_close) | ((with_reducible show wpAny _ _ (eval (Expr.ListComp _ _ _ _) _) _ _ _); with_reducible ((k_here; refine hold ?_))) | ((with_reducible show wpAny _ _ (call (Value.builtin _) _) _ _ _); first | with_reducible ((k_here; (with_reducible show wpAny _ _ (call (Value.builtin "str.join") [Value.str _ _, Value.ref _]) _ _ _); k_dflt (refine join_listW (isl (by k_asm) (by tm_at "mem")) (by assumption) (by decide +kernel) (by first | assumption | (refine Nat.le_trans (selU_weight _ _ _) ?_; omega)) ?_); intro t' k'))) | ((with_reducible show wpAny _ _ (call (Value.type _) _) _ _ _); first | with_reducible ((k_here; (with_reducible show wpAny _ _ (call (Value.type _) [Value.str _ _]) _ _ _); k_dflt (refine ec_call (by assumption) _ _ rfl (by k_asm) (by k_asm))))) | ((with_reducible show wpAny _ _ (subscriptTail _ _ _ _) _ _ _); first | with_reducible ((k_here; (with_reducible show wpAny _ _ (subscriptTail _ _ (Value.ref _) (Value.int _ _)) _ _ _); (with_unfolding_all refine' item_list (News.isList ?n ?m) ?h0 ?hf ?hx ?_ ?hs ?hg; (case n => k_asm); (case m => tm_at "mem"); (case h0 => omega); (case hf => omega); (case hx => first | ((simp only [List.getElem?_toArray, Int.toNat_natCast]); assumption) | exact get0 | exact get1 | exact get2 | exact get3); (case hs => with_unfolding_all rfl); (case hg => intro _; with_unfolding_all rfl); k_whole)))) | walk1 | (dsimp only; walk1) | (leave1; (try dsimp only)) | fail "no step"))
        all_goals (first | rfl | exact ⟨rfl, _, rfl⟩)
      · intro D9 h9 tk9 ys9 F9 N9 off9 hS9
        (repeat' (first | (k_unfold; (try dsimp only)) | (k_end; kc_close) | ((with_reducible show wpAny _ _ (eval (Expr.ListComp _ _ _ _) _) _ _ _); with_reducible ((k_here; refine hold ?_))) | ((with_reducible show wpAny _ _ (call (Value.builtin _) _) _ _ _); first | with_reducible ((k_here; (with_reducible show wpAny _ _ (call (Value.builtin "str.join") [Value.str _ _, Value.ref _]) _ _ _); k_dflt (refine join_listW (isl (by k_asm) (by tm_at "mem")) (by assumption) (by decide +kernel) (by first | assumption | (refine Nat.le_trans (selU_weight _ _ _) ?_; omega)) ?_); intro t' k'))) | ((with_reducible show wpAny _ _ (call (Value.type _) _) _ _ _); first | with_reducible ((k_here; (with_reducible show wpAny _ _ (call (Value.type _) [Value.str _ _]) _ _ _); k_dflt (refine ec_call (by assumption) _ _ rfl (by k_asm) (by k_asm))))) | ((with_reducible show wpAny _ _ (subscriptTail _ _ _ _) _ _ _); first | with_reducible ((k_here; (with_reducible show wpAny _ _ (subscriptTail _ _ (Value.ref _) (Value.int _ _)) _ _ _); (with_unfolding_all refine' item_list (News.isList ?n ?m) ?h0 ?hf ?hx ?_ ?hs ?hg; (case n => k_asm); (case m => tm_at "mem"); (case h0 => omega); (case hf => omega); (case hx => first | ((simp only [List.getElem?_toArray, Int.toNat_natCast]); assumption) | exact get0 | exact get1 | exact get2 | exact get3); (case hs => with_unfolding_all rfl); (case hg => intro _; with_unfolding_all rfl); k_whole)))) | walk1 | (dsimp only; walk1) | (leave1; (try dsimp only)) | fail "no step"))
        all_goals (exact hret _ ((_, tok2 _ _ _ _) :: news) _ _ (by k_asm) (dropx (by k_asm) (by walk_at "my_subs")) ⟨_, _, rfl, fun p hp => Nat.ne_of_lt (allLt_mem _ (by walk_at "my_allLt") p hp), due_str rfl hz, rfl⟩)))) only [↓boxed]
theorem lt_right0 (w : World) (wd : PySem.Str) (hwd : PyData.strOk wd = true) (q1 : (wd == "LEN") = false) (q2 : (wd == "VAL") = false) (q3 : (wd == "ASC") = false) (q4 : (wd == "MID$") = false) (q5 : (wd == "LEFT$") = false) (x : PySem.Str) (hok : PyData.strOk x = true) (hx : x.length ≤ 100) (hasc : x.cps.all (· < 128) = true) (tx : Tok) (ds : List Dv) (y : Int) (ty : Tok) (r : List Value) (hA : ArgsAt ds (.int y ty :: r)) (hn : ds.length ≤ 9) (hc : szBad wd 1 ds = none) (zz : PySem.Str) (hz : zz = Txt.join "" (selU (fun i => decide ((x.length : Int) - y ≤ (i : Int))) x.cps x.cps.size)) (t : Tok) (l k : Nat) (news : List (Addr × Obj)) (h1 : (l, listObj (.str x tx :: (.int y ty :: r)) k) ∈ news) : Tel w 381 [.str wd t, .ref l] 30 300 news (RetDue (.ok (.s zz)) news) (fun _ => False) := by
  refine Box.out ?_
  simp (disch :=
    k_dflt ((
    refine keepP ?_
    refine lt_go fun sco body ccd lo mean mg mb dp un gd outer A₀ base h₀ L hp0 gn0 dr0 tk0 os0 Q E o1 o2 o3 m hsco hb B X T hd0 hu0 hP l1 F N hm c1 c2 c3 hret => ?_
    refine lt_head hsco hb rfl B X T hd0 hu0 hP hwd q1 q2 q3 h1 l1 hA hn c3 F N hm c2 (fun c' a t1 t2 n h' tk' m' e lt F N => absurd (hc.symm.trans e) (by simp)) (fun h' tk' o2' m' e c2' F2 hw N2 => ?_)
    · have hsz : x.cps.size ≤ 100 := hx
      clear F N c2 hm e
      subst hsco hb
      (rename Frag.In _ _ => X9; revert X9; k_fill; intro X9)
      conv in (occs := *) List.drop _ (bodyAt _ _) => all_goals whnf
      conv in (occs := *) scopeAt _ _ => all_goals whnf
      have hlim := lim_is
      (try dsimp only)
      (repeat' (first | (k_unfold; (try dsimp only)) | (k_end; kc_close) | ((with_reducible show wpAny _ _ (eval (Expr.ListComp _ _ _ _) _) _ _ _); with_reducible ((k_here; refine hold ?_))) | ((with_reducible show wpAny _ _ (call (Value.builtin _) _) _ _ _); first | with_reducible ((k_here; (with_reducible show wpAny _ _ (call (Value.builtin "str.join") [Value.str _ _, Value.ref _]) _ _ _); k_dflt (refine join_listW (isl (by k_asm) (by tm_at "mem")) (by assumption) (by decide +kernel) (by first | assumption | (refine Nat.le_trans (selU_weight _ _ _) ?_; omega)) ?_); intro t' k'))) | ((with_reducible show wpAny _ _ (call (Value.type _) _) _ _ _); first | with_reducible ((k_here; (with_reducible show wpAny _ _ (call (Value.type _) [Value.str _ _]) _ _ _); k_dflt (refine ec_call (by assumption) _ _ rfl (by k_asm) (by k_asm))))) | ((with_reducible show wpAny _ _ (subscriptTail _ _ _ _) _ _ _); first | with_reducible ((k_here; (with_reducible show wpAny _ _ (subscriptTail _ _ (Value.ref _) (Value.int _ _)) _ _ _); (with_unfolding_all refine' item_list (News.isList ?n ?m) ?h0 ?hf ?hx ?_ ?hs ?hg; (case n => k_asm); (case m => tm_at "mem"); (case h0 => omega); (case hf => omega); (case hx => first | ((simp only [List.getElem?_toArray, Int.toNat_natCast]); assumption) | exact get0 | exact get1 | exact get2 | exact get3); (case hs => with_unfolding_all rfl); (case hg => intro _; with_unfolding_all rfl); k_whole)))) | walk1 | (dsimp only; walk1) | (leave1; (try dsimp only)) | fail "no step"))
      unfold Hold
      refine ec_go (x := x) (fun i => decide ((x.length : Int) - y ≤ (i : Int))) (by k_asm) (by k_asm) (by rfl) (by with_unfolding_all rfl) (by decide) (by rfl) (by decide) (by rfl) (by rfl) (by decide +kernel) (by decide) (Nat.le_trans (show x.cps.size ≤ 100 from hx) (by decide)) (by intro _; rfl) ?_ ?_ ?_
      · (repeat' (first | (k_unfold; (try dsimp only)) | (k_end; kc_close) | ((with_reducible show wpAny _ _ (eval (Expr.ListComp _ _ _ _) _) _ _ _); with_reducible ((k_here; refine hold ?_))) | ((with_reducible show wpAny _ _ (call (Value.builtin _) _) _ _ _); first | with_reducible ((k_here; (with_reducible show wpAny _ _ (call (Value.builtin "str.join") [Value.str _ _, Value.ref _]) _ _ _); k_dflt (refine join_listW (isl (by k_asm) (by tm_at "mem")) (by assumption) (by decide +kernel) (by first | assumption | (refine Nat.le_trans (selU_weight _ _ _) ?_; omega)) ?_); intro t' k'))) | ((with_reducible show wpAny _ _ (call (Value.type _) _) _ _ _); first | with_reducible ((k_here; (with_reducible show wpAny _ _ (call (Value.type _) [Value.str _ _]) _ _ _); k_dflt (refine ec_call (by assumption) _ _ rfl (by k_asm) (by k_asm))))) | ((with_reducible show wpAny _ _ (subscriptTail _ _ _ _) _ _ _); first | with_reducible ((k_here; (with_reducible show wpAny _ _ (subscriptTail _ _ (Value.ref _) (Value.int _ _)) _ _ _); (with_unfolding_all refine' item_list (News.isList ?n ?m) ?h0 ?hf ?hx ?_ ?hs ?hg; (case n => k_asm); (case m => tm_at "mem"); (case h0 => omega); (case hf => omega); (case hx => first | ((simp only [List.getElem?_toArray, Int.toNat_natCast]); assumption) | exact get0 | exact get1 | exact get2 | exact get3); (case hs => with_unfolding_all rfl); (case hg => intro _; with_unfolding_all rfl); k_whole)))) | walk1 | (dsimp only; walk1) | (leave1; (try dsimp only)) | fail "no step"))
      · intro i ch t9 u9 C9 oC9 m9 h9 tk9 E9 hch hC9 ha9 hb9 F9 N9
        (repeat' (first | (k_unfold; (try dsimp only)) | (k_end; kc_close) | ((with_reducible show wpAny _ _ (eval (Expr.ListComp _ _ _ _) _) _ _ _); with_reducible ((k_here; refine hold ?_))) | ((with_reducible show wpAny _ _ (call (Value.builtin _) _) _ _ _); first | with_reducible ((k_here; (with_reducible show wpAny _ _ (call (Value.builtin "str.join") [Value.str _ _, Value.ref _]) _ _ _); k_dflt (refine join_listW (isl (by k_asm) (by tm_at "mem")) (by assumption) (by decide +kernel) (by first | assumption | (refine Nat.le_trans (selU_weight _ _ _) ?_; omega)) ?_); intro t' k'))) | ((with_reducible show wpAny _ _ (call (Value.type _) _) _ _ _); first | with_reducible ((k_here; (with_reducible show wpAny _ _ (call (Value.type _) [Value.str _ _]) _ _ _); k_dflt (refine ec_call (by assumption) _ _ rfl (by k_asm) (by k_asm))))) | ((with_reducible show wpAny _ _ (subscriptTail _ _ _ _) _ _ _); first | with_reducible ((k_here; (with_reducible show wpAny _ _ (subscriptTail _ _ (Value.ref _) (Value.int _ _)) _ _ _); (with_unfolding_all refine' item_list (News.isList ?n ?m) ?h0 ?hf ?hx ?_ ?hs ?hg; (case n => k_asm); (case m => tm_at "mem"); (case h0 => omega); (case hf => omega); (case hx => first | ((simp only [List.getElem?_toArray, Int.toNat_natCast]); assumption) | exact get0 | exact get1 | exact get2 | exact get3); (case hs => with_unfolding_all rfl); (case hg => intro _; with_unfolding_all rfl); k_whole)))) | walk1 | (dsimp only; walk1) | (leave1; (try dsimp only)) | fail "no step"))
        all_goals (first | rfl | exact ⟨rfl, _, rfl⟩)
      · intro D9 h9 tk9 ys9 F9 N9 off9 hS9
        (repeat' (first | (k_unfold; (try dsimp only)) | (k_end; kc_close) | ((with_reducible show wpAny _ _ (eval (Expr.ListComp _ _ _ _) _) _ _ _); with_reducible ((k_here; refine hold ?_))) | ((with_reducible show wpAny _ _ (call (Value.builtin _) _) _ _ _); first | with_reducible ((k_here; (with_reducible show wpAny _ _ (call (Value.builtin "str.join") [Value.str _ _, Value.ref _]) _ _ _); k_dflt (refine join_listW (isl (by k_asm) (by tm_at "mem")) (by assumption) (by decide +kernel) (by first | assumption | (refine Nat.le_trans (selU_weight _ _ _) ?_; omega)) ?_); intro t' k'))) | ((with_reducible show wpAny _ _ (call (Value.type _) _) _ _ _); first | with_reducible ((k_here; (with_reducible show wpAny _ _ (call (Value.type _) [Value.str _ _]) _ _ _); k_dflt (refine ec_call (by assumption) _ _ rfl (by k_asm) (by k_asm))))) | ((with_reducible show wpAny _ _ (subscriptTail _ _ _ _) _ _ _); first | with_reducible ((k_here; (with_reducible show wpAny _ _ (subscriptTail _ _ (Value.ref _) (Value.int _ _)) _ _ _); (with_unfolding_all refine' item_list (News.isList ?n ?m) ?h0 ?hf ?hx ?_ ?hs ?hg; (case n => k_asm); (case m => tm_at "mem"); (case h0 => omega); (case hf => omega); (case hx => first | ((simp only [List.getElem?_toArray, Int.toNat_natCast]); assumption) | exact get0 | exact get1 | exact get2 | exact get3); (case hs => with_unfolding_all rfl); (case hg => intro _; with_unfolding_all rfl); k_whole)))) | walk1 | (dsimp only; walk1) | (leave1; (try dsimp only)) | fail "no step"))
        all_goals (exact hret _ ((_, tok2 _ _ _ _) :: news) _ _ (by k_asm) (dropx (by k_asm) (by walk_at "my_subs")) ⟨_, _, rfl, fun p hp => Nat.ne_of_lt (allLt_mem _ (by walk_at "my_allLt") p hp), due_str rfl hz, rfl⟩)))) only [↓boxed]
theorem lt_mid2 (w : World) (x : PySem.Str) (hok : PyData.strOk x = true) (hx : x.length ≤ 100) (hasc : x.cps.all (· < 128) = true) (tx : Tok) (ds : List Dv) (y : Int) (ty : Tok) (hA : ArgsAt ds [.int y ty]) (hn : ds.length ≤ 9) (hc : szBad "MID$" 1 ds = none) (zz : PySem.Str) (hz : zz = Txt.join "" (selU (fun i => decide (y - 1 ≤ (i : Int)) && decide ((i : Int) < (x.length : Int))) x.cps x.cps.size)) (t : Tok) (l k : Nat) (news : List (Addr × Obj)) (h1 : (l, listObj (.str x tx :: [.int y ty]) k) ∈ news) : Tel w 381 [.str "MID$" t, .ref l] 30 300 news (RetDue (.ok (.s zz)) news) (fun _ => False) := by
  refine Box.out ?_
  simp (disch :=
    k_dflt ((
    refine keepP ?_
    refine lt_go fun sco body ccd lo mean mg mb dp un gd outer A₀ base h₀ L hp0 gn0 dr0 tk0 os0 Q E o1 o2 o3 m hsco hb B X T hd0 hu0 hP l1 F N hm c1 c2 c3 hret => ?_
    refine lt_head hsco hb rfl B X T hd0 hu0 hP (by decide +kernel) (by decide +kernel) (by decide +kernel) (by decide +kernel) h1 l1 hA hn c3 F N hm c2 (fun c' a t1 t2 n h' tk' m' e lt F N => absurd (hc.symm.trans e) (by simp)) (fun h' tk' o2' m' e c2' F2 hw N2 => ?_)
    · have hsz : x.cps.size ≤ 100 := hx
      clear F N c2 hm e
      subst hsco hb
      (rename Frag.In _ _ => X9; revert X9; k_fill; intro X9)
      conv in (occs := *) List.drop _ (bodyAt _ _) => all_goals whnf
      conv in (occs := *) scopeAt _ _ => all_goals whnf
      have hlim := lim_is
      (try dsimp only)
      (repeat' (first | (k_unfold; (try dsimp only)) | (k_end; kc_close) | ((with_reducible show wpAny _ _ (eval (Expr.ListComp _ _ _ _) _) _ _ _); with_reducible ((k_here; refine hold ?_))) | ((with_reducible show wpAny _ _ (call (Value.builtin _) _) _ _ _); first | with_reducible ((k_here; (with_reducible show wpAny _ _ (call (Value.builtin "str.join") [Value.str _ _, Value.ref _]) _ _ _); k_dflt (refine join_listW (isl (by k_asm) (by tm_at "mem")) (by assumption) (by decide +kernel) (by first | assumption | (refine Nat.le_trans (selU_weight _ _ _) ?_; omega)) ?_); intro t' k')) | with_reducible ((k_here; (with_reducible show wpAny _ _ (call (Value.builtin _) [Value.ref _]) _ _ _); k_dflt (refine' len_list (News.isList ?n ?m) ?f ?_; (case n => k_asm); (case m => tm_at "mem"); (case f => first | (simp only [List.size_toArray]; omega) | (simp only [List.size_toArray, List.length_cons, List.length_nil]; omega)); k_whole); (try simp only [List.size_toArray, List.length_cons, List.length_nil])))) | ((with_reducible show wpAny _ _ (call (Value.type _) _) _ _ _); first | with_reducible ((k_here; (with_reducible show wpAny _ _ (call (Value.type _) [Value.str _ _]) _ _ _); k_dflt (refine ec_call (by assumption) _ _ rfl (by k_asm) (by k_asm))))) | ((with_reducible show wpAny _ _ (subscriptTail _ _ _ _) _ _ _); first | with_reducible ((k_here; (with_reducible show wpAny _ _ (subscriptTail _ _ (Value.ref _) (Value.int _ _)) _ _ _); (with_unfolding_all refine' item_list (News.isList ?n ?m) ?h0 ?hf ?hx ?_ ?hs ?hg; (case n => k_asm); (case m => tm_at "mem"); (case h0 => omega); (case hf => omega); (case hx => first | ((simp only [List.getElem?_toArray, Int.toNat_natCast]); assumption) | exact get0 | exact get1 | exact get2 | exact get3); (case hs => with_unfolding_all rfl); (case hg => intro _; with_unfolding_all rfl); k_whole)))) | walk1 | (dsimp only; walk1) | (leave1; (try dsimp only)) | fail "no step"))
      unfold Hold
      refine ec_go (x := x) (fun i => decide (y - 1 ≤ (i : Int)) && decide ((i : Int) < (x.length : Int))) (by k_asm) (by k_asm) (by rfl) (by with_unfolding_all rfl) (by decide) (by rfl) (by decide) (by rfl) (by rfl) (by decide +kernel) (by decide) (Nat.le_trans (show x.cps.size ≤ 100 from hx) (by decide)) (by intro _; rfl) ?_ ?_ ?_
      · (repeat' (first | (k_unfold; (try dsimp only)) | (k_end; kc_close) | ((with_reducible show wpAny _ _ (eval (Expr.ListComp _ _ _ _) _) _ _ _); with_reducible ((k_here; refine hold ?_))) | ((with_reducible show wpAny _ _ (call (Value.builtin _) _) _ _ _); first | with_reducible ((k_here; (with_reducible show wpAny _ _ (call (Value.builtin "str.join") [Value.str _ _, Value.ref _]) _ _ _); k_dflt (refine join_listW (isl (by k_asm) (by tm_at "mem")) (by assumption) (by decide +kernel) (by first | assumption | (refine Nat.le_trans (selU_weight _ _ _) ?_; omega)) ?_); intro t' k')) | with_reducible ((k_here; (with_reducible show wpAny _ _ (call (Value.builtin _) [Value.ref _]) _ _ _); k_dflt (refine' len_list (News.isList ?n ?m) ?f ?_; (case n => k_asm); (case m => tm_at "mem"); (case f => first | (simp only [List.size_toArray]; omega) | (simp only [List.size_toArray, List.length_cons, List.length_nil]; omega)); k_whole); (try simp only [List.size_toArray, List.length_cons, List.length_nil])))) | ((with_reducible show wpAny _ _ (call (Value.type _) _) _ _ _); first | with_reducible ((k_here; (with_reducible show wpAny _ _ (call (Value.type _) [Value.str _ _]) _ _ _); k_dflt (refine ec_call (by assumption) _ _ rfl (by k_asm) (by k_asm))))) | ((with_reducible show wpAny _ _ (subscriptTail _ _ _ _) _ _ _); first | with_reducible ((k_here; (with_reducible show wpAny _ _ (subscriptTail _ _ (Value.ref _) (Value.int _ _)) _ _ _); (with_unfolding_all refine' item_list (News.isList ?n ?m) ?h0 ?hf ?hx ?_ ?hs ?hg; (case n => k_asm); (case m => tm_at "mem"); (case h0 => omega); (case hf => omega); (case hx => first | ((simp only [List.getElem?_toArray, Int.toNat_natCast]); assumption) | exact get0 | exact get1 | exact get2 | exact get3); (case hs => with_unfolding_all rfl); (case hg => intro _; with_unfolding_all rfl); k_whole)))) | walk1 | (dsimp only; walk1) | (leave1; (try dsimp only)) | fail "no step"))
      · intro i ch t9 u9 C9 oC9 m9 h9 tk9 E9 hch hC9 ha9 hb9 F9 N9
        (repeat' (first | (k_unfold; (try dsimp only)) | (k_end; kc_close) | ((with_reducible show wpAny _ _ (eval (Expr.ListComp _ _ _ _) _) _ _ _); with_reducible ((k_here; refine hold ?_))) | ((with_reducible show wpAny _ _ (call (Value.builtin _) _) _ _ _); first | with_reducible ((k_here; (with_reducible show wpAny _ _ (call (Value.builtin "str.join") [Value.str _ _, Value.ref _]) _ _ _); k_dflt (refine join_listW (isl (by k_asm) (by tm_at "mem")) (by assumption) (by decide +kernel) (by first | assumption | (refine Nat.le_trans (selU_weight _ _ _) ?_; omega)) ?_); intro t' k')) | with_reducible ((k_here; (with_reducible show wpAny _ _ (call (Value.builtin _) [Value.ref _]) _ _ _); k_dflt (refine' len_list (News.isList ?n ?m) ?f ?_; (case n => k_asm); (case m => tm_at "mem"); (case f => first | (simp only [List.size_toArray]; omega) | (simp only [List.size_toArray, List.length_cons, List.length_nil]; omega)); k_whole); (try simp only [List.size_toArray, List.length_cons, List.length_nil])))) | ((with_reducible show wpAny _ _ (call (Value.type _) _) _ _ _); first | with_reducible ((k_here; (with_reducible show wpAny _ _ (call (Value.type _) [Value.str _ _]) _ _ _); k_dflt (refine ec_call (by assumption) _ _ rfl (by k_asm) (by k_asm))))) | ((with_reducible show wpAny _ _ (subscriptTail _ _ _ _) _ _ _); first | with_reducible ((k_here; (with_reducible show wpAny _ _ (subscriptTail _ _ (Value.ref _) (Value.int _ _)) _ _ _); (with_unfolding_all refine' item_list (News.isList ?n ?m) ?h0 ?hf ?hx ?_ ?hs ?hg; (case n => k_asm); (case m => tm_at "mem"); (case h0 => omega); (case hf => omega); (case hx => first | ((simp only [List.getElem?_toArray, Int.toNat_natCast]); assumption) | exact get0 | exact get1 | exact get2 | exact get3); (case hs => with_unfolding_all rfl); (case hg => intro _; with_unfolding_all rfl); k_whole)))) | walk1 | (dsimp only; walk1) | (leave1; (try dsimp only)) | fail "no step"))
        all_goals (first | rfl | exact ⟨rfl, _, rfl⟩ | (symm; simp only [*, decide_true, decide_false, Bool.false_and, Bool.true_and]; done) | (symm; simp [*]; done))
      · intro D9 h9 tk9 ys9 F9 N9 off9 hS9
        (repeat' (first | (k_unfold; (try dsimp only)) | (k_end; kc_close) | ((with_reducible show wpAny _ _ (eval (Expr.ListComp _ _ _ _) _) _ _ _); with_reducible ((k_here; refine hold ?_))) | ((with_reducible show wpAny _ _ (call (Value.builtin _) _) _ _ _); first | with_reducible ((k_here; (with_reducible show wpAny _ _ (call (Value.builtin "str.join") [Value.str _ _, Value.ref _]) _ _ _); k_dflt (refine join_listW (isl (by k_asm) (by tm_at "mem")) (by assumption) (by decide +kernel) (by first | assumption | (refine Nat.le_trans (selU_weight _ _ _) ?_; omega)) ?_); intro t' k')) | with_reducible ((k_here; (with_reducible show wpAny _ _ (call (Value.builtin _) [Value.ref _]) _ _ _); k_dflt (refine' len_list (News.isList ?n ?m) ?f ?_; (case n => k_asm); (case m => tm_at "mem"); (case f => first | (simp only [List.size_toArray]; omega) | (simp only [List.size_toArray, List.length_cons, List.length_nil]; omega)); k_whole); (try simp only [List.size_toArray, List.length_cons, List.length_nil])))) | ((with_reducible show wpAny _ _ (call (Value.type _) _) _ _ _); first | with_reducible ((k_here; (with_reducible show wpAny _ _ (call (Value.type _) [Value.str _ _]) _ _ _); k_dflt (refine ec_call (by assumption) _ _ rfl (by k_asm) (by k_asm))))) | ((with_reducible show wpAny _ _ (subscriptTail _ _ _ _) _ _ _); first | with_reducible ((k_here; (with_reducible show wpAny _ _ (subscriptTail _ _ (Value.ref _) (Value.int _ _)) _ _ _); (with_unfolding_all refine' item_list (News.isList ?n ?m) ?h0 ?hf ?hx ?_ ?hs ?hg; (case n => k_asm); (case m => tm_at "mem"); (case h0 => omega); (case hf => omega); (case hx => first | ((simp only [List.getElem?_toArray, Int.toNat_natCast]); assumption) | exact get0 | exact get1 | exact get2 | exact get3); (case hs => with_unfolding_all rfl); (case hg => intro _; with_unfolding_all rfl); k_whole)))) | walk1 | (dsimp only; walk1) | (leave1; (try dsimp only)) | fail "no step"))
        all_goals (exact hret _ ((_, tok2 _ _ _ _) :: news) _ _ (by k_asm) (dropx (by k_asm) (by walk_at "my_subs")) ⟨_, _, rfl, fun p hp => Nat.ne_of_lt (allLt_mem _ (by walk_at "my_allLt") p hp), due_str rfl hz, rfl⟩)))) only [↓boxed]
theorem lt_mid3 (w : World) (x : PySem.Str) (hok : PyData.strOk x = true) (hx : x.length ≤ 100) (hasc : x.cps.all (· < 128) = true) (tx : Tok) (ds : List Dv) (y : Int) (ty : Tok) (z : Int) (tz : Tok) (hA : ArgsAt ds [.int y ty, .int z tz]) (hn : ds.length ≤ 9) (hc : szBad "MID$" 1 ds = none) (zz : PySem.Str) (hz : zz = Txt.join "" (selU (fun i => decide (y - 1 ≤ (i : Int)) && decide ((i : Int) < y - 1 + z)) x.cps x.cps.size)) (t : Tok) (l k : Nat) (news : List (Addr × Obj)) (h1 : (l, listObj (.str x tx :: [.int y ty, .int z tz]) k) ∈ news) : Tel w 381 [.str "MID$" t, .ref l] 30 300 news (RetDue (.ok (.s zz)) news) (fun _ => False) := by
  refine Box.out ?_
  simp (disch :=
    k_dflt ((
    refine keepP ?_
    refine lt_go fun sco body ccd lo mean mg mb dp un gd outer A₀ base h₀ L hp0 gn0 dr0 tk0 os0 Q E o1 o2 o3 m hsco hb B X T hd0 hu0 hP l1 F N hm c1 c2 c3 hret => ?_
    refine lt_head hsco hb rfl B X T hd0 hu0 hP (by decide +kernel) (by decide +kernel) (by decide +kernel) (by decide +kernel) h1 l1 hA hn c3 F N hm c2 (fun c' a t1 t2 n h' tk' m' e lt F N => absurd (hc.symm.trans e) (by simp)) (fun h' tk' o2' m' e c2' F2 hw N2 => ?_)
    · have hsz : x.cps.size ≤ 100 := hx
      clear F N c2 hm e
      subst hsco hb
      (rename Frag.In _ _ => X9; revert X9; k_fill; intro X9)
      conv in (occs := *) List.drop _ (bodyAt _ _) => all_goals whnf
      conv in (occs := *) scopeAt _ _ => all_goals whnf
      have hlim := lim_is
      (try dsimp only)
      (repeat' (first | (k_unfold; (try dsimp only)) | (k_end; kc_close) | ((with_reducible show wpAny _ _ (eval (Expr.ListComp _ _ _ _) _) _ _ _); with_reducible ((k_here; refine hold ?_))) | ((with_reducible show wpAny _ _ (call (Value.builtin _) _) _ _ _); first | with_reducible ((k_here; (with_reducible show wpAny _ _ (call (Value.builtin "str.join") [Value.str _ _, Value.ref _]) _ _ _); k_dflt (refine join_listW (isl (by k_asm) (by tm_at "mem")) (by assumption) (by decide +kernel) (by first | assumption | (refine Nat.le_trans (selU_weight _ _ _) ?_; omega)) ?_); intro t' k')) | with_reducible ((k_here; (with_reducible show wpAny _ _ (call (Value.builtin _) [Value.ref _]) _ _ _); k_dflt (refine' len_list (News.isList ?n ?m) ?f ?_; (case n => k_asm); (case m => tm_at "mem"); (case f => first | (simp only [List.size_toArray]; omega) | (simp only [List.size_toArray, List.length_cons, List.length_nil]; omega)); k_whole); (try simp only [List.size_toArray, List.length_cons, List.length_nil])))) | ((with_reducible show wpAny _ _ (call (Value.type _) _) _ _ _); first | with_reducible ((k_here; (with_reducible show wpAny _ _ (call (Value.type _) [Value.str _ _]) _ _ _); k_dflt (refine ec_call (by assumption) _ _ rfl (by k_asm) (by k_asm))))) | ((with_reducible show wpAny _ _ (subscriptTail _ _ _ _) _ _ _); first | with_reducible ((k_here; (with_reducible show wpAny _ _ (subscriptTail _ _ (Value.ref _) (Value.int _ _)) _ _ _); (with_unfolding_all refine' item_list (News.isList ?n ?m) ?h0 ?hf ?hx ?_ ?hs ?hg; (case n => k_asm); (case m => tm_at "mem"); (case h0 => omega); (case hf => omega); (case hx => first | ((simp only [List.getElem?_toArray, Int.toNat_natCast]); assumption) | exact get0 | exact get1 | exact get2 | exact get3); (case hs => with_unfolding_all rfl); (case hg => intro _; with_unfolding_all rfl); k_whole)))) | walk1 | (dsimp only; walk1) | (leave1; (try dsimp only)) | fail "no step"))
      unfold Hold
      refine ec_go (x := x) (fun i => decide (y - 1 ≤ (i : Int)) && decide ((i : Int) < y - 1 + z)) (by k_asm) (by k_asm) (by rfl) (by with_unfolding_all rfl) (by decide) (by rfl) (by decide) (by rfl) (by rfl) (by decide +kernel) (by decide) (Nat.le_trans (show x.cps.size ≤ 100 from hx) (by decide)) (by intro _; rfl) ?_ ?_ ?_
      · (repeat' (first | (k_unfold; (try dsimp only)) | (k_end; kc_close) | ((with_reducible show wpAny _ _ (eval (Expr.ListComp _ _ _ _) _) _ _ _); with_reducible ((k_here; refine hold ?_))) | ((with_reducible show wpAny _ _ (call (Value.builtin _) _) _ _ _); first | with_reducible ((k_here; (with_reducible show wpAny _ _ (call (Value.builtin "str.join") [Value.str _ _, Value.ref _]) _ _ _); k_dflt (refine join_listW (isl (by k_asm) (by tm_at "mem")) (by assumption) (by decide +kernel) (by first | assumption | (refine Nat.le_trans (selU_weight _ _ _) ?_; omega)) ?_); intro t' k')) | with_reducible ((k_here; (with_reducible show wpAny _ _ (call (Value.builtin _) [Value.ref _]) _ _ _); k_dflt (refine' len_list (News.isList ?n ?m) ?f ?_; (case n => k_asm); (case m => tm_at "mem"); (case f => first | (simp only [List.size_toArray]; omega) | (simp only [List.size_toArray, List.length_cons, List.length_nil]; omega)); k_whole); (try simp only [List.size_toArray, List.length_cons, List.length_nil])))) | ((with_reducible show wpAny _ _ (call (Value.type _) _) _ _ _); first | with_reducible ((k_here; (with_reducible show wpAny _ _ (call (Value.type _) [Value.str _ _]) _ _ _); k_dflt (refine ec_call (by assumption) _ _ rfl (by k_asm) (by k_asm))))) | ((with_reducible show wpAny _ _ (subscriptTail _ _ _ _) _ _ _); first | with_reducible ((k_here; (with_reducible show wpAny _ _ (subscriptTail _ _ (Value.ref _) (Value.int _ _)) _ _ _); (with_unfolding_all refine' item_list (News.isList ?n ?m) ?h0 ?hf ?hx ?_ ?hs ?hg; (case n => k_asm); (case m => tm_at "mem"); (case h0 => omega); (case hf => omega); (case hx => first | ((simp only [List.getElem?_toArray, Int.toNat_natCast]); assumption) | exact get0 | exact get1 | exact get2 | exact get3); (case hs => with_unfolding_all rfl); (case hg => intro _; with_unfolding_all rfl); k_whole)))) | walk1 | (dsimp only; walk1) | (leave1; (try dsimp only)) | fail "no step"))
      · intro i ch t9 u9 C9 oC9 m9 h9 tk9 E9 hch hC9 ha9 hb9 F9 N9
        (repeat' (first | (k_unfold; (try dsimp only)) | (k_end; kc_close) | ((with_reducible show wpAny _ _ (eval (Expr.ListComp _ _ _ _) _) _ _ _); with_reducible ((k_here; refine hold ?_))) | ((with_reducible show wpAny _ _ (call (Value.builtin _) _) _ _ _); first | with_reducible ((k_here; (with_reducible show wpAny _ _ (call (Value.builtin "str.join") [Value.str _ _, Value.ref _]) _ _ _); k_dflt (refine join_listW (isl (by k_asm) (by tm_at "mem")) (by assumption) (by decide +kernel) (by first | assumption | (refine Nat.le_trans (selU_weight _ _ _) ?_; omega)) ?_); intro t' k')) | with_reducible ((k_here; (with_reducible show wpAny _ _ (call (Value.builtin _) [Value.ref _]) _ _ _); k_dflt (refine' len_list (News.isList ?n ?m) ?f ?_; (case n => k_asm); (case m => tm_at "mem"); (case f => first | (simp only [List.size_toArray]; omega) | (simp only [List.size_toArray, List.length_cons, List.length_nil]; omega)); k_whole); (try simp only [List.size_toArray, List.length_cons, List.length_nil])))) | ((with_reducible show wpAny _ _ (call (Value.type _) _) _ _ _); first | with_reducible ((k_here; (with_reducible show wpAny _ _ (call (Value.type _) [Value.str _ _]) _ _ _); k_dflt (refine ec_call (by assumption) _ _ rfl (by k_asm) (by k_asm))))) | ((with_reducible show wpAny _ _ (subscriptTail _ _ _ _) _ _ _); first | with_reducible ((k_here; (with_reducible show wpAny _ _ (subscriptTail _ _ (Value.ref _) (Value.int _ _)) _ _ _); (with_unfolding_all refine' item_list (News.isList ?n ?m) ?h0 ?hf ?hx ?_ ?hs ?hg; (case n => k_asm); (case m => tm_at "mem"); (case h0 => omega); (case hf => omega); (case hx => first | ((simp only [List.getElem?_toArray, Int.toNat_natCast]); assumption) | exact get0 | exact get1 | exact get2 | exact get3); (case hs => with_unfolding_all rfl); (case hg => intro _; with_unfolding_all rfl); k_whole)))) | walk1 | (dsimp only; walk1) | (leave1; (try dsimp only)) | fail "no step"))
        all_goals (first | rfl | exact ⟨rfl, _, rfl⟩ | (symm; simp only [*, decide_true, decide_false, Bool.false_and, Bool.true_and]; done) | (symm; simp [*]; done))
      · intro D9 h9 tk9 ys9 F9 N9 off9 hS9
        (repeat' (first | (k_unfold; (try dsimp only)) | (k_end; kc_close) | ((with_reducible show wpAny _ _ (eval (Expr.ListComp _ _ _ _) _) _ _ _); with_reducible ((k_here; refine hold ?_))) | ((with_reducible show wpAny _ _ (call (Value.builtin _) _) _ _ _); first | with_reducible ((k_here; (with_reducible show wpAny _ _ (call (Value.builtin "str.join") [Value.str _ _, Value.ref _]) _ _ _); k_dflt (refine join_listW (isl (by k_asm) (by tm_at "mem")) (by assumption) (by decide +kernel) (by first | assumption | (refine Nat.le_trans (selU_weight _ _ _) ?_; omega)) ?_); intro t' k')) | with_reducible ((k_here; (with_reducible show wpAny _ _ (call (Value.builtin _) [Value.ref _]) _ _ _); k_dflt (refine' len_list (News.isList ?n ?m) ?f ?_; (case n => k_asm); (case m => tm_at "mem"); (case f => first | (simp only [List.size_toArray]; omega) | (simp only [List.size_toArray, List.length_cons, List.length_nil]; omega)); k_whole); (try simp only [List.size_toArray, List.length_cons, List.length_nil])))) | ((with_reducible show wpAny _ _ (call (Value.type _) _) _ _ _); first | with_reducible ((k_here; (with_reducible show wpAny _ _ (call (Value.type _) [Value.str _ _]) _ _ _); k_dflt (refine ec_call (by assumption) _ _ rfl (by k_asm) (by k_asm))))) | ((with_reducible show wpAny _ _ (subscriptTail _ _ _ _) _ _ _); first | with_reducible ((k_here; (with_reducible show wpAny _ _ (subscriptTail _ _ (Value.ref _) (Value.int _ _)) _ _ _); (with_unfolding_all refine' item_list (News.isList ?n ?m) ?h0 ?hf ?hx ?_ ?hs ?hg; (case n => k_asm); (case m => tm_at "mem"); (case h0 => omega); (case hf => omega); (case hx => first | ((simp only [List.getElem?_toArray, Int.toNat_natCast]); assumption) | exact get0 | exact get1 | exact get2 | exact get3); (case hs => with_unfolding_all rfl); (case hg => intro _; with_unfolding_all rfl); k_whole)))) | walk1 | (dsimp only; walk1) | (leave1; (try dsimp only)) | fail "no step"))
        all_goals (exact hret _ ((_, tok2 _ _ _ _) :: news) _ _ (by k_asm) (dropx (by k_asm) (by walk_at "my_subs")) ⟨_, _, rfl, fun p hp => Nat.ne_of_lt (allLt_mem _ (by walk_at "my_allLt") p hp), due_str rfl hz, rfl⟩)))) only [↓boxed]
theorem args1 {d : Dv} {v : Value} (h : IsD d v) : ArgsAt [d] [v] := ⟨rfl, isd_cons h isd_nil⟩
theorem args2 {d d2 : Dv} {v v2 : Value} (h : IsD d v) (h2 : IsD d2 v2) : ArgsAt [d, d2] [v, v2] := ⟨rfl, isd_cons h (isd_cons h2 isd_nil)⟩
theorem nb1 {wd : PySem.Str} {y : Int} (q4 : (wd == "MID$") = false) : szOne wd 1 (.n y) = if y < 0 ∨ 255 < y then some (Str.ofString "FC") else none := by rw [szOne, q4]; rfl
theorem mb_t {i : Nat} {y : Int} : szOne "MID$" i (.n y) = if y < (if (((i : Nat) : Int) == 1) = true then 1 else 0) ∨ 255 < y then some (Str.ofString "FC") else none := by rw [szOne, (by decide +kernel : ((Str.ofString "MID$") == (Str.ofString "MID$")) = true), Bool.true_and]
theorem mb1 {y : Int} : szOne "MID$" 1 (.n y) = if y < 1 ∨ 255 < y then some (Str.ofString "FC") else none := mb_t.trans rfl
theorem mb2 {y : Int} : szOne "MID$" 2 (.n y) = if y < 0 ∨ 255 < y then some (Str.ofString "FC") else none := mb_t.trans rfl
theorem sz_c {wd k : PySem.Str} {i : Nat} {d : Dv} {r : List Dv} (h : szOne wd i d = some k) : szBad wd i (d :: r) = some k := by rw [szBad, h]
theorem sz_n {wd : PySem.Str} {i : Nat} {d : Dv} {r : List Dv} (h : szOne wd i d = none) : szBad wd i (d :: r) = szBad wd (i + 1) r := by rw [szBad, h]
theorem lt_w1 (w : World) (wd : PySem.Str) (hwd : PyData.strOk wd = true) (q1 : (wd == "LEN") = false) (q2 : (wd == "VAL") = false) (q3 : (wd == "ASC") = false) (x : PySem.Str) (tx : Tok) (x2 : PySem.Str) (t2 : Tok) (t : Tok) (l k : Nat) (news : List (Addr × Obj)) (h1 : (l, listObj [.str x tx, .str x2 t2] k) ∈ news) : Tel w 381 [.str wd t, .ref l] 30 300 news (RetDue (.bad "TM") news) (fun _ => False) :=
  lt_bad w wd hwd q1 q2 q3 x tx [.s x2] _ (args1 ⟨t2, rfl⟩) (Nat.le_of_ble_eq_true rfl) "TM" rfl t l k news h1
theorem lt_w2 (w : World) (wd : PySem.Str) (hwd : PyData.strOk wd = true) (q1 : (wd == "LEN") = false) (q2 : (wd == "VAL") = false) (q3 : (wd == "ASC") = false) (x : PySem.Str) (tx : Tok) (x2 : PySem.Str) (t2 : Tok) (d3 : Dv) (v3 : Value) (i3 : IsD d3 v3) (t : Tok) (l k : Nat) (news : List (Addr × Obj)) (h1 : (l, listObj [.str x tx, .str x2 t2, v3] k) ∈ news) : Tel w 381 [.str wd t, .ref l] 30 300 news (RetDue (.bad "TM") news) (fun _ => False) :=
  lt_bad w wd hwd q1 q2 q3 x tx [.s x2, d3] _ (args2 (d := .s x2) ⟨t2, rfl⟩ i3) (Nat.le_of_ble_eq_true rfl) "TM" rfl t l k news h1
theorem lt_left (w : World) (x : PySem.Str) (hok : PyData.strOk x = true) (hx : x.length ≤ 100) (hasc : x.cps.all (· < 128) = true) (tx : Tok) (y : Int) (ty : Tok) (z : PySem.Str) (hz : z = Txt.join "" (selU (fun i => decide ((i : Int) < y)) x.cps x.cps.size)) (t : Tok) (l k : Nat) (news : List (Addr × Obj)) (h1 : (l, listObj [.str x tx, .int y ty] k) ∈ news) : Tel w 381 [.str "LEFT$" t, .ref l] 30 300 news (RetDue (if y < 0 ∨ 255 < y then .bad "FC" else .ok (.s z)) news) (fun _ => False) := by
  have e : szOne "LEFT$" 1 (.n y) = _ := nb1 (by decide +kernel)
  by_cases hy : y < 0 ∨ 255 < y
  · rw [if_pos hy] at e ⊢
    exact lt_bad w _ (by decide +kernel) (by decide +kernel) (by decide +kernel) (by decide +kernel) x tx [.n y] _ (args1 ⟨ty, rfl⟩) (Nat.le_of_ble_eq_true rfl) _ (sz_c e) t l k news h1
  · rw [if_neg hy] at e ⊢
    exact lt_left0 w x hok hx hasc tx [.n y] y ty [] (args1 ⟨ty, rfl⟩) (Nat.le_of_ble_eq_true rfl) (sz_n e) z hz t l k news h1
theorem lt_o2 (w : World) (wd : PySem.Str) (hwd : PyData.strOk wd = true) (q1 : (wd == "LEN") = false) (q2 : (wd == "VAL") = false) (q3 : (wd == "ASC") = false) (q4 : (wd == "MID$") = false) (q5 : (wd == "LEFT$") = false) (x : PySem.Str) (hok : PyData.strOk x = true) (hx : x.length ≤ 100) (hasc : x.cps.all (· < 128) = true) (tx : Tok) (y : Int) (ty : Tok) (z : PySem.Str) (hz : z = Txt.join "" (selU (fun i => decide ((x.length : Int) - y ≤ (i : Int))) x.cps x.cps.size)) (t : Tok) (l k : Nat) (news : List (Addr × Obj)) (h1 : (l, listObj [.str x tx, .int y ty] k) ∈ news) : Tel w 381 [.str wd t, .ref l] 30 300 news (RetDue (if y < 0 ∨ 255 < y then .bad "FC" else .ok (.s z)) news) (fun _ => False) := by
  have e := nb1 (y := y) q4
  by_cases hy : y < 0 ∨ 255 < y
  · rw [if_pos hy] at e ⊢
    exact lt_bad w wd hwd q1 q2 q3 x tx [.n y] _ (args1 ⟨ty, rfl⟩) (Nat.le_of_ble_eq_true rfl) _ (sz_c e) t l k news h1
  · rw [if_neg hy] at e ⊢
    exact lt_right0 w wd hwd q1 q2 q3 q4 q5 x hok hx hasc tx [.n y] y ty [] (args1 ⟨ty, rfl⟩) (Nat.le_of_ble_eq_true rfl) (sz_n e) z hz t l k news h1
theorem lt_m2 (w : World) (x : PySem.Str) (hok : PyData.strOk x = true) (hx : x.length ≤ 100) (hasc : x.cps.all (· < 128) = true) (tx : Tok) (y : Int) (ty : Tok) (z : PySem.Str) (hz : z = Txt.join "" (selU (fun i => decide (y - 1 ≤ (i : Int)) && decide ((i : Int) < (x.length : Int))) x.cps x.cps.size)) (t : Tok) (l k : Nat) (news : List (Addr × Obj)) (h1 : (l, listObj [.str x tx, .int y ty] k) ∈ news) : Tel w 381 [.str "MID$" t, .ref l] 30 300 news (RetDue (if y < 1 ∨ 255 < y then .bad "FC" else .ok (.s z)) news) (fun _ => False) := by
  have e := mb1 (y := y)
  by_cases hy : y < 1 ∨ 255 < y
  · rw [if_pos hy] at e ⊢
    exact lt_bad w _ (by decide +kernel) (by decide +kernel) (by decide +kernel) (by decide +kernel) x tx [.n y] _ (args1 ⟨ty, rfl⟩) (Nat.le_of_ble_eq_true rfl) _ (sz_c e) t l k news h1
  · rw [if_neg hy] at e ⊢
    exact lt_mid2 w x hok hx hasc tx [.n y] y ty (args1 ⟨ty, rfl⟩) (Nat.le_of_ble_eq_true rfl) (sz_n e) z hz t l k news h1
theorem lt_m3 (w : World) (x : PySem.Str) (hok : PyData.strOk x = true) (hx : x.length ≤ 100) (hasc : x.cps.all (· < 128) = true) (tx : Tok) (y : Int) (ty : Tok) (z : Int) (tz : Tok) (zz : PySem.Str) (hz : zz = Txt.join "" (selU (fun i => decide (y - 1 ≤ (i : Int)) && decide ((i : Int) < y - 1 + z)) x.cps x.cps.size)) (t : Tok) (l k : Nat) (news : List (Addr × Obj)) (h1 : (l, listObj [.str x tx, .int y ty, .int z tz] k) ∈ news) : Tel w 381 [.str "MID$" t, .ref l] 30 300 news (RetDue (if y < 1 ∨ 255 < y then .bad "FC" else if z < 0 ∨ 255 < z then .bad "FC" else .ok (.s zz)) news) (fun _ => False) := by
  have e := mb1 (y := y)
  have e2 := mb2 (y := z)
  have hA : ArgsAt [.n y, .n z] [.int y ty, .int z tz] := args2 ⟨ty, rfl⟩ ⟨tz, rfl⟩
  by_cases hy : y < 1 ∨ 255 < y
  · rw [if_pos hy] at e ⊢
    exact lt_bad w _ (by decide +kernel) (by decide +kernel) (by decide +kernel) (by decide +kernel) x tx _ _ hA (Nat.le_of_ble_eq_true rfl) _ (sz_c e) t l k news h1
  · rw [if_neg hy] at e ⊢
    by_cases hy2 : z < 0 ∨ 255 < z
    · rw [if_pos hy2] at e2 ⊢
      exact lt_bad w _ (by decide +kernel) (by decide +kernel) (by decide +kernel) (by decide +kernel) x tx _ _ hA (Nat.le_of_ble_eq_true rfl) _ ((sz_n e).trans (sz_c e2)) t l k news h1
    · rw [if_neg hy2] at e2 ⊢
      exact lt_mid3 w x hok hx hasc tx _ y ty z tz hA (Nat.le_of_ble_eq_true rfl) ((sz_n e).trans (sz_n e2)) zz hz t l k news h1
theorem lt_m3s (w : World) (x : PySem.Str) (tx : Tok) (y : Int) (ty : Tok) (x3 : PySem.Str) (t3 : Tok) (t : Tok) (l k : Nat) (news : List (Addr × Obj)) (h1 : (l, listObj [.str x tx, .int y ty, .str x3 t3] k) ∈ news) : Tel w 381 [.str "MID$" t, .ref l] 30 300 news (RetDue (if y < 1 ∨ 255 < y then .bad "FC" else .bad "TM") news) (fun _ => False) := by
  have e := mb1 (y := y)
  have hA : ArgsAt [.n y, .s x3] [.int y ty, .str x3 t3] := args2 ⟨ty, rfl⟩ ⟨t3, rfl⟩
  by_cases hy : y < 1 ∨ 255 < y
  · rw [if_pos hy] at e ⊢
    exact lt_bad w _ (by decide +kernel) (by decide +kernel) (by decide +kernel) (by decide +kernel) x tx _ _ hA (Nat.le_of_ble_eq_true rfl) _ (sz_c e) t l k news h1
  · rw [if_neg hy] at e ⊢
    exact lt_bad w _ (by decide +kernel) (by decide +kernel) (by decide +kernel) (by decide +kernel) x tx _ _ hA (Nat.le_of_ble_eq_true rfl) _ (sz_n e) t l k news h1
theorem lt_o3 (w : World) (wd : PySem.Str) (hwd : PyData.strOk wd = true) (q1 : (wd == "LEN") = false) (q2 : (wd == "VAL") = false) (q3 : (wd == "ASC") = false) (q4 : (wd == "MID$") = false) (q5 : (wd == "LEFT$") = false) (x : PySem.Str) (hok : PyData.strOk x = true) (hx : x.length ≤ 100) (hasc : x.cps.all (· < 128) = true) (tx : Tok) (y : Int) (ty : Tok) (d3 : Dv) (v3 : Value) (i3 : IsD d3 v3) (t : Tok) (l k : Nat) (news : List (Addr × Obj)) (h1 : (l, listObj [.str x tx, .int y ty, v3] k) ∈ news) : Tel w 381 [.str wd t, .ref l] 30 300 news (RetAny news) (fun _ => False) := by
  have hA : ArgsAt [.n y, d3] [.int y ty, v3] := args2 ⟨ty, rfl⟩ i3
  cases hc : szBad wd 1 [.n y, d3] with
  | none => exact (lt_right0 w wd hwd q1 q2 q3 q4 q5 x hok hx hasc tx _ y ty _ hA (Nat.le_of_ble_eq_true rfl) hc _ rfl t l k news h1).mono (Nat.le_refl _) (Nat.le_refl _) (fun _ _ z => ⟨_, z⟩) fun _ z => z
  | some c => exact (lt_bad w wd hwd q1 q2 q3 x tx _ _ hA (Nat.le_of_ble_eq_true rfl) c hc t l k news h1).mono (Nat.le_refl _) (Nat.le_refl _) (fun _ _ z => ⟨_, z⟩) fun _ z => z
end
section
noncomputable def fm (x x2 : PySem.Str) : Nat → Int → Int
  | 0, _ => 0
  | n + 1, p => if (Txt.slice x (some (p - 1)) (some (p - 1 + (x2.length : Int))) == x2) = true then p else fm x x2 n (p + 1)
noncomputable def InJ (x x2 : PySem.Str) (y : Int) (N : Nat) (m0 : PySem.Str → Option Value) (news : List (Addr × Obj)) (i : Nat) (m : PySem.Str → Option Value) (n : List (Addr × Obj)) : Prop :=
  n = news ∧ (∃ v, m = fun z => if z = Str.ofString "place" then v else m0 z) ∧ fm x x2 (N - i) (y + (i : Int)) = fm x x2 N y
theorem map_over {m0 : PySem.Str → Option Value} {v w : Option Value} {k : PySem.Str} : (fun z => if z = k then v else if z = k then w else m0 z) = fun z => if z = k then v else m0 z := by
  funext z
  by_cases h : z = k
  · rw [if_pos h, if_pos h]
  · rw [if_neg h, if_neg h, if_neg h]
theorem inj_start {x x2 : PySem.Str} {y : Int} {N : Nat} {m0 : PySem.Str → Option Value} {news : List (Addr × Obj)} : InJ x x2 y N m0 news 0 m0 news := ⟨rfl, ⟨m0 (Str.ofString "place"), by
  funext z
  by_cases h : z = Str.ofString "place"
  · rw [if_pos h, h]
  · rw [if_neg h]⟩, by rw [Nat.sub_zero]; congr 1; omega⟩
theorem fm_hit {x x2 : PySem.Str} {y : Int} {N i : Nat} (hi : i < N) (h : fm x x2 (N - i) (y + (i : Int)) = fm x x2 N y) (f : (Txt.slice x (some (y + (i : Int) - 1)) (some (y + (i : Int) - 1 + (x2.length : Int))) == x2) = true) : fm x x2 N y = y + (i : Int) := by
  obtain ⟨k, hk⟩ : ∃ k, N - i = k + 1 := ⟨N - i - 1, by omega⟩
  rw [← h, hk]
  exact if_pos f
theorem fm_miss {x x2 : PySem.Str} {y : Int} {N i : Nat} (hi : i < N) (h : fm x x2 (N - i) (y + (i : Int)) = fm x x2 N y) (f : (Txt.slice x (some (y + (i : Int) - 1)) (some (y + (i : Int) - 1 + (x2.length : Int))) == x2) = false) : fm x x2 (N - (i + 1)) (y + ((i + 1 : Nat) : Int)) = fm x x2 N y := by
  obtain ⟨k, hk⟩ : ∃ k, N - i = k + 1 := ⟨N - i - 1, by omega⟩
  have hk2 : N - (i + 1) = k := by omega
  have e : y + ((i + 1 : Nat) : Int) = y + (i : Int) + 1 := by omega
  rw [← h, hk, hk2, e]
  exact (if_neg (by rw [f]; decide)).symm
set_option maxHeartbeats 16000000
theorem li_2i (w : World) (y : Int) (ty : Tok) (v2 : Value) (t : Tok) (l k : Nat) (news : List (Addr × Obj)) (h1 : (l, listObj [.int y ty, v2] k) ∈ news)  : Tel w 376 [.ref l] 20 200 news (RetDue (.bad "TM") news) (fun _ => False) := by
  refine Box.out ?_
  simp (disch :=
    k_dflt ((
    refine keepP ?_
    walk_at "my_go"
    intro lo mean mg mb dp un gd outer A₀ base h₀ L hp0 gn0 dr0 tk0 os0 Q E B F X N T hd0 hu0 hP hret hexcN hexc
    (try dsimp only at F)
    (repeat' (first | (k_unfold; (try dsimp only)) | (k_end; kc_close) | ((with_reducible show wpAny _ _ (subscriptTail _ _ _ _) _ _ _); first | with_reducible ((k_here; (with_reducible show wpAny _ _ (subscriptTail _ _ (Value.ref _) (Value.int _ _)) _ _ _); (with_unfolding_all refine' item_list (News.isList ?n ?m) ?h0 ?hf ?hx ?_ ?hs ?hg; (case n => k_asm); (case m => tm_at "mem"); (case h0 => omega); (case hf => omega); (case hx => first | ((simp only [List.getElem?_toArray, Int.toNat_natCast]); assumption) | exact get0 | exact get1 | exact get2 | exact get3); (case hs => with_unfolding_all rfl); (case hg => intro _; with_unfolding_all rfl); k_whole)))) | ((with_reducible show wpAny _ _ (call (Value.builtin _) _) _ _ _); first | with_reducible ((k_here; (with_reducible show wpAny _ _ (call (Value.builtin _) [Value.ref _]) _ _ _); k_dflt (refine' len_list (News.isList ?n ?m) ?f ?_; (case n => k_asm); (case m => tm_at "mem"); (case f => first | (simp only [List.size_toArray]; omega) | (simp only [List.size_toArray, List.length_cons, List.length_nil]; omega)); k_whole); (try simp only [List.size_toArray, List.length_cons, List.length_nil])))) | walk1 | (dsimp only; walk1) | (leave1; (try dsimp only)) | fail "no step"))
    all_goals first | exact hret _ ((_, tok2 _ _ _ _) :: news) _ _ (by k_asm) (dropx (by k_asm) (by walk_at "my_subs")) ⟨_, _, rfl, fun p hp => Nat.ne_of_lt (allLt_mem _ (by walk_at "my_allLt") p hp), due_bad rfl, rfl⟩))) only [↓boxed]
theorem li_2s (w : World) (x : PySem.Str) (tx : Tok) (y : Int) (ty : Tok) (t : Tok) (l k : Nat) (news : List (Addr × Obj)) (h1 : (l, listObj [.str x tx, .int y ty] k) ∈ news)  : Tel w 376 [.ref l] 20 200 news (RetDue (.bad "TM") news) (fun _ => False) := by
  refine Box.out ?_
  simp (disch :=
    k_dflt ((
    refine keepP ?_
    walk_at "my_go"
    intro lo mean mg mb dp un gd outer A₀ base h₀ L hp0 gn0 dr0 tk0 os0 Q E B F X N T hd0 hu0 hP hret hexcN hexc
    (try dsimp only at F)
    (repeat' (first | (k_unfold; (try dsimp only)) | (k_end; kc_close) | ((with_reducible show wpAny _ _ (subscriptTail _ _ _ _) _ _ _); first | with_reducible ((k_here; (with_reducible show wpAny _ _ (subscriptTail _ _ (Value.ref _) (Value.int _ _)) _ _ _); (with_unfolding_all refine' item_list (News.isList ?n ?m) ?h0 ?hf ?hx ?_ ?hs ?hg; (case n => k_asm); (case m => tm_at "mem"); (case h0 => omega); (case hf => omega); (case hx => first | ((simp only [List.getElem?_toArray, Int.toNat_natCast]); assumption) | exact get0 | exact get1 | exact get2 | exact get3); (case hs => with_unfolding_all rfl); (case hg => intro _; with_unfolding_all rfl); k_whole)))) | ((with_reducible show wpAny _ _ (call (Value.builtin _) _) _ _ _); first | with_reducible ((k_here; (with_reducible show wpAny _ _ (call (Value.builtin _) [Value.ref _]) _ _ _); k_dflt (refine' len_list (News.isList ?n ?m) ?f ?_; (case n => k_asm); (case m => tm_at "mem"); (case f => first | (simp only [List.size_toArray]; omega) | (simp only [List.size_toArray, List.length_cons, List.length_nil]; omega)); k_whole); (try simp only [List.size_toArray, List.length_cons, List.length_nil])))) | walk1 | (dsimp only; walk1) | (leave1; (try dsimp only)) | fail "no step"))
    all_goals first | exact hret _ ((_, tok2 _ _ _ _) :: news) _ _ (by k_asm) (dropx (by k_asm) (by walk_at "my_subs")) ⟨_, _, rfl, fun p hp => Nat.ne_of_lt (allLt_mem _ (by walk_at "my_allLt") p hp), due_bad rfl, rfl⟩))) only [↓boxed]
theorem li_3s (w : World) (x : PySem.Str) (tx : Tok) (v2 v3 : Value) (t : Tok) (l k : Nat) (news : List (Addr × Obj)) (h1 : (l, listObj [.str x tx, v2, v3] k) ∈ news)  : Tel w 376 [.ref l] 20 200 news (RetDue (.bad "TM") news) (fun _ => False) := by
  refine Box.out ?_
  simp (disch :=
    k_dflt ((
    refine keepP ?_
    walk_at "my_go"
    intro lo mean mg mb dp un gd outer A₀ base h₀ L hp0 gn0 dr0 tk0 os0 Q E B F X N T hd0 hu0 hP hret hexcN hexc
    (try dsimp only at F)
    (repeat' (first | (k_unfold; (try dsimp only)) | (k_end; kc_close) | ((with_reducible show wpAny _ _ (call (Value.ref _) _) _ _ _); first | with_reducible ((k_here; (with_reducible show wpAny _ _ (call (Value.ref 355) [Value.str _ _, Value.int _ _]) _ _ _); k_dflt (ktr_call z9 (size_s _ _ _ _ _ _); skip); (((case ke => exact fun _ _ _ _ _ _ hk9 => (show False from hk9).elim); intro v9 n9 h9 tk9 F9 N9 hv9; obtain ⟨t9, e1, e2⟩ := hv9; subst e1; replace e2 := e2.symm; subst e2; (try dsimp only); (try k_fold)))))) | ((with_reducible show wpAny _ _ (subscriptTail _ _ _ _) _ _ _); first | with_reducible ((k_here; (with_reducible show wpAny _ _ (subscriptTail _ _ (Value.ref _) (Value.int _ _)) _ _ _); (with_unfolding_all refine' item_list (News.isList ?n ?m) ?h0 ?hf ?hx ?_ ?hs ?hg; (case n => k_asm); (case m => tm_at "mem"); (case h0 => omega); (case hf => omega); (case hx => first | ((simp only [List.getElem?_toArray, Int.toNat_natCast]); assumption) | exact get0 | exact get1 | exact get2 | exact get3); (case hs => with_unfolding_all rfl); (case hg => intro _; with_unfolding_all rfl); k_whole)))) | ((with_reducible show wpAny _ _ (call (Value.builtin _) _) _ _ _); first | with_reducible ((k_here; (with_reducible show wpAny _ _ (call (Value.builtin _) [Value.ref _]) _ _ _); k_dflt (refine' len_list (News.isList ?n ?m) ?f ?_; (case n => k_asm); (case m => tm_at "mem"); (case f => first | (simp only [List.size_toArray]; omega) | (simp only [List.size_toArray, List.length_cons, List.length_nil]; omega)); k_whole); (try simp only [List.size_toArray, List.length_cons, List.length_nil])))) | walk1 | (dsimp only; walk1) | (leave1; (try dsimp only)) | fail "no step"))
    all_goals first | exact hret _ ((_, tok2 _ _ _ _) :: news) _ _ (by k_asm) (dropx (by k_asm) (by walk_at "my_subs")) ⟨_, _, rfl, fun p hp => Nat.ne_of_lt (allLt_mem _ (by walk_at "my_allLt") p hp), due_bad rfl, rfl⟩))) only [↓boxed]
theorem li_3i (w : World) (y : Int) (ty : Tok) (y2 : Int) (ty2 : Tok) (v3 : Value) (t : Tok) (l k : Nat) (news : List (Addr × Obj)) (h1 : (l, listObj [.int y ty, .int y2 ty2, v3] k) ∈ news)  : Tel w 376 [.ref l] 20 200 news (RetDue (if y < 1 ∨ 255 < y then .bad "FC" else .bad "TM") news) (fun _ => False) := by
  refine Box.out ?_
  simp (disch :=
    k_dflt ((
    refine keepP ?_
    walk_at "my_go"
    intro lo mean mg mb dp un gd outer A₀ base h₀ L hp0 gn0 dr0 tk0 os0 Q E B F X N T hd0 hu0 hP hret hexcN hexc
    (try dsimp only at F)
    (repeat' (first | (k_unfold; (try dsimp only)) | (k_end; kc_close) | ((with_reducible show wpAny _ _ (call (Value.ref _) _) _ _ _); first | with_reducible ((k_here; (with_reducible show wpAny _ _ (call (Value.ref 355) [Value.int _ _, Value.int _ _]) _ _ _); k_dflt (ktr_call z9 (size_i _ _ _ 1 ?p1 _ _ _); (case p1 => first | rfl | decide +kernel | simp [*]); skip); (((case ke => exact fun _ _ _ _ _ _ hk9 => (show False from hk9).elim); intro v9 n9 h9 tk9 F9 N9 hv9; obtain ⟨hv9, e2⟩ := hv9; replace e2 := e2.symm; subst e2; rcases hv9 with ⟨lo9, hi9, e1⟩ | ⟨bad9, t9, e1⟩; all_goals (subst e1; (try dsimp only); (try k_fold))))))) | ((with_reducible show wpAny _ _ (subscriptTail _ _ _ _) _ _ _); first | with_reducible ((k_here; (with_reducible show wpAny _ _ (subscriptTail _ _ (Value.ref _) (Value.int _ _)) _ _ _); (with_unfolding_all refine' item_list (News.isList ?n ?m) ?h0 ?hf ?hx ?_ ?hs ?hg; (case n => k_asm); (case m => tm_at "mem"); (case h0 => omega); (case hf => omega); (case hx => first | ((simp only [List.getElem?_toArray, Int.toNat_natCast]); assumption) | exact get0 | exact get1 | exact get2 | exact get3); (case hs => with_unfolding_all rfl); (case hg => intro _; with_unfolding_all rfl); k_whole)))) | ((with_reducible show wpAny _ _ (call (Value.builtin _) _) _ _ _); first | with_reducible ((k_here; (with_reducible show wpAny _ _ (call (Value.builtin _) [Value.ref _]) _ _ _); k_dflt (refine' len_list (News.isList ?n ?m) ?f ?_; (case n => k_asm); (case m => tm_at "mem"); (case f => first | (simp only [List.size_toArray]; omega) | (simp only [List.size_toArray, List.length_cons, List.length_nil]; omega)); k_whole); (try simp only [List.size_toArray, List.length_cons, List.length_nil])))) | walk1 | (dsimp only; walk1) | (leave1; (try dsimp only)) | fail "no step"))
    all_goals first | exact hret _ ((_, tok2 _ _ _ _) :: news) _ _ (by k_asm) (dropx (by k_asm) (by walk_at "my_subs")) ⟨_, _, rfl, fun p hp => Nat.ne_of_lt (allLt_mem _ (by walk_at "my_allLt") p hp), due_bad (if_pos (by assumption)), rfl⟩ | exact hret _ ((_, tok2 _ _ _ _) :: news) _ _ (by k_asm) (dropx (by k_asm) (by walk_at "my_subs")) ⟨_, _, rfl, fun p hp => Nat.ne_of_lt (allLt_mem _ (by walk_at "my_allLt") p hp), due_bad (if_neg (by omega)), rfl⟩))) only [↓boxed]
theorem li_3j (w : World) (y : Int) (ty : Tok) (x : PySem.Str) (tx : Tok) (y2 : Int) (ty2 : Tok) (t : Tok) (l k : Nat) (news : List (Addr × Obj)) (h1 : (l, listObj [.int y ty, .str x tx, .int y2 ty2] k) ∈ news)  : Tel w 376 [.ref l] 20 200 news (RetDue (if y < 1 ∨ 255 < y then .bad "FC" else .bad "TM") news) (fun _ => False) := by
  refine Box.out ?_
  simp (disch :=
    k_dflt ((
    refine keepP ?_
    walk_at "my_go"
    intro lo mean mg mb dp un gd outer A₀ base h₀ L hp0 gn0 dr0 tk0 os0 Q E B F X N T hd0 hu0 hP hret hexcN hexc
    (try dsimp only at F)
    (repeat' (first | (k_unfold; (try dsimp only)) | (k_end; kc_close) | ((with_reducible show wpAny _ _ (call (Value.ref _) _) _ _ _); first | with_reducible ((k_here; (with_reducible show wpAny _ _ (call (Value.ref 355) [Value.int _ _, Value.int _ _]) _ _ _); k_dflt (ktr_call z9 (size_i _ _ _ 1 ?p1 _ _ _); (case p1 => first | rfl | decide +kernel | simp [*]); skip); (((case ke => exact fun _ _ _ _ _ _ hk9 => (show False from hk9).elim); intro v9 n9 h9 tk9 F9 N9 hv9; obtain ⟨hv9, e2⟩ := hv9; replace e2 := e2.symm; subst e2; rcases hv9 with ⟨lo9, hi9, e1⟩ | ⟨bad9, t9, e1⟩; all_goals (subst e1; (try dsimp only); (try k_fold))))))) | ((with_reducible show wpAny _ _ (subscriptTail _ _ _ _) _ _ _); first | with_reducible ((k_here; (with_reducible show wpAny _ _ (subscriptTail _ _ (Value.ref _) (Value.int _ _)) _ _ _); (with_unfolding_all refine' item_list (News.isList ?n ?m) ?h0 ?hf ?hx ?_ ?hs ?hg; (case n => k_asm); (case m => tm_at "mem"); (case h0 => omega); (case hf => omega); (case hx => first | ((simp only [List.getElem?_toArray, Int.toNat_natCast]); assumption) | exact get0 | exact get1 | exact get2 | exact get3); (case hs => with_unfolding_all rfl); (case hg => intro _; with_unfolding_all rfl); k_whole)))) | ((with_reducible show wpAny _ _ (call (Value.builtin _) _) _ _ _); first | with_reducible ((k_here; (with_reducible show wpAny _ _ (call (Value.builtin _) [Value.ref _]) _ _ _); k_dflt (refine' len_list (News.isList ?n ?m) ?f ?_; (case n => k_asm); (case m => tm_at "mem"); (case f => first | (simp only [List.size_toArray]; omega) | (simp only [List.size_toArray, List.length_cons, List.length_nil]; omega)); k_whole); (try simp only [List.size_toArray, List.length_cons, List.length_nil])))) | walk1 | (dsimp only; walk1) | (leave1; (try dsimp only)) | fail "no step"))
    all_goals first | exact hret _ ((_, tok2 _ _ _ _) :: news) _ _ (by k_asm) (dropx (by k_asm) (by walk_at "my_subs")) ⟨_, _, rfl, fun p hp => Nat.ne_of_lt (allLt_mem _ (by walk_at "my_allLt") p hp), due_bad (if_pos (by assumption)), rfl⟩ | exact hret _ ((_, tok2 _ _ _ _) :: news) _ _ (by k_asm) (dropx (by k_asm) (by walk_at "my_subs")) ⟨_, _, rfl, fun p hp => Nat.ne_of_lt (allLt_mem _ (by walk_at "my_allLt") p hp), due_bad (if_neg (by omega)), rfl⟩))) only [↓boxed]
theorem fm_cast {h₀ h : Heap} {L a : Addr} {p q : Int} {t1 t3 : Tok} {n : Nat} {l : List (Addr × Obj)} (e : p = q) (N : News h₀ L h ((a, tok2 "told" t1 (.int q t3) n) :: l)) : News h₀ L h ((a, tok2 "told" t1 (.int p t3) n) :: l) := e ▸ N
theorem li_for {w : World} {sco : Scope} {st : Stmt} {lo : List PySem.Str} {mean : ExcName → Option Value} {mg mb : PySem.Str → Option Value} {dp un : Nat} {gd : Option (List Code)} {outer : List Env} {A₀ : Around} {base h₀ : Heap} {L : Addr} {ccd : Value} {Q : Flow → Shared → Prop} {E : Value → Shared → Prop} {x x2 : PySem.Str} {tx t2 ty : Tok} {y : Int} {n0 : List (Addr × Obj)} {hp0 : Heap} {gn0 : Array GenState} {dr0 : Drawn} {tk0 : Nat} {os0 : OsState} {m : PySem.Str → Option Value}
   (hsco : sco = scopeAt w.params 376) (hst : st = stAt (bodyAt w.params 376) 4)
   (B : Below A₀ base outer h₀) (X : (hd.heap_1 w.params).In h₀) (T : Top viewQ lo mean mg mb h₀) (hd0 : dp + 20 < 451) (hu0 : un + 200 < 903)
   (hP : PassesOwn (model PySem.Challenge.rw_pq1455_02.row.prog w) (ktrTop dp un gd (Str.ofString "_law_instr") sco L 376 ccd [] outer) (envOf (Str.ofString "_law_instr") sco L 376 ccd) E)
   (hok : PyData.strOk x = true) (hx : x.length ≤ 100) (hok2 : PyData.strOk x2 = true) (hxx : x2.length ≤ 100) (hy : 1 ≤ y) (hy2 : y ≤ 255)
   (F : Fr h₀ L hp0 m) (N : News h₀ L hp0 n0) (mt : m (Str.ofString "text") = some (.str x tx)) (mp : m (Str.ofString "part") = some (.str x2 t2)) (me : m (Str.ofString "begin") = some (.int y ty))
   (hQr : ∀ a t1 t3 n h' tk' {m' : PySem.Str → Option Value}, (∀ p ∈ n0, p.1 < a) → Fr h₀ L h' m' → News h₀ L h' ((a, tok2 "told" t1 (.int (fm x x2 ((x.length : Int) + 1 - y).toNat y) t3) n) :: n0) → Q (.ret (.ref a)) ⟨h', gn0, dr0, tk', os0⟩)
   (hQn : ∀ h' tk' {m' : PySem.Str → Option Value}, fm x x2 ((x.length : Int) + 1 - y).toNat y = 0 → Fr h₀ L h' m' → News h₀ L h' n0 → Q .next ⟨h', gn0, dr0, tk', os0⟩) :
   wpAny (model PySem.Challenge.rw_pq1455_02.row.prog w) (ktrTop dp un gd (Str.ofString "_law_instr") sco L 376 ccd [] outer) (exec st (envOf (Str.ofString "_law_instr") sco L 376 ccd)) Q E ⟨hp0, gn0, dr0, tk0, os0⟩ := by
  refine Box.out ?_
  simp (disch :=
    k_dflt ((
    refine keepP ?_
    subst hsco hst
    (rename Frag.In _ _ => X9; revert X9; k_fill; intro X9)
    conv in (occs := *) stAt _ _ => all_goals whnf
    conv in (occs := *) scopeAt _ _ => all_goals whnf
    have hlim := lim_is
    (repeat' (first | (k_unfold; (try dsimp only)) | (k_end; kc_close) | ((with_reducible show wpAny _ _ (exec (Stmt.For _ _ _ _ _) _) _ _ _); with_reducible ((k_here; (rename Fr _ _ _ _ => lF'); (with_unfolding_all refine' For_invVF lF' ?k1 ?k2 ?_; (case k1 => exact rfl); (case k2 => exact rfl); k_whole)))) | ((with_reducible show wpAny _ _ (pyIter _) _ _ _); with_reducible ((k_here; (with_reducible show wpAny _ _ (pyIter (Value.ref _)) (fun it s₂ => LoopAtV _ _ _ _ _ _ _ _ _ it s₂) _ _); refine hold ?_))) | ((with_reducible show wpAny _ _ (binaryOp Operator.Add _ _) _ _ _); with_reducible (with_reducible refine add_nat1 ?_)) | walk1 | (dsimp only; walk1) | (leave1; (try dsimp only)) | fail "no step"))
    unfold Hold
    rename IsRange _ _ _ _ _ _ _ _ => hr9
    have hsz9 : Builtin.Range.rangeSize y ((x.length : Int) + 1) 1 = ((((x.length : Int) + 1 - y).toNat : Nat) : Int) := by rw [rangeSize_one]; split <;> omega
    refine iter_rangeUnr (by rfl) hr9 (small_one (by omega) (by omega) (by omega) (by omega)) hsz9 (by k_asm) (by k_asm) ?_
    intro I ltI
    have ltA := allLt_of ltI
    refine range_ind (fun i m' n' => n' = n0 ∧ m' (Str.ofString "text") = some (.str x tx) ∧ m' (Str.ofString "part") = some (.str x2 t2) ∧ fm x x2 (((x.length : Int) + 1 - y).toNat - i) (y + (i : Int)) = fm x x2 ((x.length : Int) + 1 - y).toNat y) ?_ ?_ _ 0 _ _ (Nat.zero_add _) ⟨rfl, mt, mp, by rw [Nat.sub_zero]; congr 1; omega⟩
    · intro i m1 n1 hiN hJ t9 h9 tk9 Q2 hN hR F9 N9
      obtain ⟨rfl, mt9, mp9, hfm⟩ := hJ
      replace F9 : Fr h₀ L h9 (up m1 (Str.ofString "place") (.int (y + (i : Int)) t9)) := F9
      replace N9 : News h₀ L h9 _ := N9
      (repeat' (first | (k_unfold; (try dsimp only)) | (k_end; kc_close) | ((with_reducible show wpAny _ _ (exec (Stmt.For _ _ _ _ _) _) _ _ _); with_reducible ((k_here; (rename Fr _ _ _ _ => lF'); (with_unfolding_all refine' For_invVF lF' ?k1 ?k2 ?_; (case k1 => exact rfl); (case k2 => exact rfl); k_whole)))) | ((with_reducible show wpAny _ _ (pyIter _) _ _ _); with_reducible ((k_here; (with_reducible show wpAny _ _ (pyIter (Value.ref _)) (fun it s₂ => LoopAtV _ _ _ _ _ _ _ _ _ it s₂) _ _); refine hold ?_))) | ((with_reducible show wpAny _ _ (binaryOp Operator.Add _ _) _ _ _); with_reducible (with_reducible refine add_nat1 ?_)) | walk1 | (dsimp only; walk1) | (leave1; (try dsimp only)) | fail "no step"))
      all_goals first | exact hN _ _ _ _ (by k_asm) (dropx (by k_asm) (by walk_at "my_subs")) (fun p hp => Nat.ne_of_lt (ltI p hp)) ⟨rfl, (by (try dsimp only); tm_at "lk"), (by (try dsimp only); tm_at "lk"), fm_miss hiN hfm (by assumption)⟩ | exact hR _ _ (hQr _ _ _ _ _ _ (allLt_mem _ (by walk_at "my_allLt")) (by k_asm) (dropx (fm_cast (fm_hit hiN hfm (by assumption)) (by k_asm)) (by walk_at "my_subs")))
    · intro m1 n1 hJ h9 tk9 F9 N9
      obtain ⟨rfl, mt9, mp9, hfm⟩ := hJ
      exact hQn _ _ (by rw [← hfm, Nat.sub_self]; rfl) F9 N9))) only [↓boxed]
theorem li_2 (w : World) (x : PySem.Str) (hok : PyData.strOk x = true) (hx : x.length ≤ 100) (tx : Tok) (x2 : PySem.Str) (hok2 : PyData.strOk x2 = true) (hxx : x2.length ≤ 100) (t2 : Tok) (t : Tok) (l k : Nat) (news : List (Addr × Obj)) (h1 : (l, listObj [.str x tx, .str x2 t2] k) ∈ news)  : Tel w 376 [.ref l] 20 200 news (RetDue (.ok (.n (fm x x2 ((x.length : Int) + 1 - 1).toNat 1))) news) (fun _ => False) := by
  refine Box.out ?_
  simp (disch :=
    k_dflt ((
    refine keepP ?_
    walk_at "my_go"
    intro lo mean mg mb dp un gd outer A₀ base h₀ L hp0 gn0 dr0 tk0 os0 Q E B F X N T hd0 hu0 hP hret hexcN hexc
    (try dsimp only at F)
    (repeat' (first | (k_unfold; (try dsimp only)) | (k_end; kc_close) | ((with_reducible show wpAny _ _ (subscriptTail _ _ _ _) _ _ _); first | with_reducible ((k_here; (with_reducible show wpAny _ _ (subscriptTail _ _ (Value.ref _) (Value.int _ _)) _ _ _); (with_unfolding_all refine' item_list (News.isList ?n ?m) ?h0 ?hf ?hx ?_ ?hs ?hg; (case n => k_asm); (case m => tm_at "mem"); (case h0 => omega); (case hf => omega); (case hx => first | ((simp only [List.getElem?_toArray, Int.toNat_natCast]); assumption) | exact get0 | exact get1 | exact get2 | exact get3); (case hs => with_unfolding_all rfl); (case hg => intro _; with_unfolding_all rfl); k_whole)))) | ((with_reducible show wpAny _ _ (call (Value.builtin _) _) _ _ _); first | with_reducible ((k_here; (with_reducible show wpAny _ _ (call (Value.builtin _) [Value.ref _]) _ _ _); k_dflt (refine' len_list (News.isList ?n ?m) ?f ?_; (case n => k_asm); (case m => tm_at "mem"); (case f => first | (simp only [List.size_toArray]; omega) | (simp only [List.size_toArray, List.length_cons, List.length_nil]; omega)); k_whole); (try simp only [List.size_toArray, List.length_cons, List.length_nil])))) | ((with_reducible show wpAny _ _ (exec (Stmt.For _ _ _ _ _) _) _ _ _); refine held ?_) | walk1 | (dsimp only; walk1) | (leave1; (try dsimp only)) | fail "no step"))
    unfold Held
    refine' li_for (y := 1) (by kernel_rfl) (by kernel_rfl) B X T hd0 hu0 hP hok hx hok2 hxx (by omega) (by omega) (by k_asm) (by k_asm) ?m1 ?m2 ?m3 (fun a t1 t3 n h' tk' m' lt F N => ?_) (fun h' tk' m' e F N => ?_)
    case m1 => ((try dsimp only); tm_at "lk")
    case m2 => ((try dsimp only); tm_at "lk")
    case m3 => ((try dsimp only); tm_at "lk")
    · exact hret _ ((_, tok2 _ _ _ _) :: news) _ _ F (dropx N (by walk_at "my_subs")) ⟨_, _, rfl, fun p hp => Nat.ne_of_lt (lt p (by first | exact hp | (simp only [List.mem_cons, hp, or_true]))), due_int rfl rfl, rfl⟩
    · (try dsimp only)
      (repeat' (first | (k_unfold; (try dsimp only)) | (k_end; kc_close) | ((with_reducible show wpAny _ _ (subscriptTail _ _ _ _) _ _ _); first | with_reducible ((k_here; (with_reducible show wpAny _ _ (subscriptTail _ _ (Value.ref _) (Value.int _ _)) _ _ _); (with_unfolding_all refine' item_list (News.isList ?n ?m) ?h0 ?hf ?hx ?_ ?hs ?hg; (case n => k_asm); (case m => tm_at "mem"); (case h0 => omega); (case hf => omega); (case hx => first | ((simp only [List.getElem?_toArray, Int.toNat_natCast]); assumption) | exact get0 | exact get1 | exact get2 | exact get3); (case hs => with_unfolding_all rfl); (case hg => intro _; with_unfolding_all rfl); k_whole)))) | ((with_reducible show wpAny _ _ (call (Value.builtin _) _) _ _ _); first | with_reducible ((k_here; (with_reducible show wpAny _ _ (call (Value.builtin _) [Value.ref _]) _ _ _); k_dflt (refine' len_list (News.isList ?n ?m) ?f ?_; (case n => k_asm); (case m => tm_at "mem"); (case f => first | (simp only [List.size_toArray]; omega) | (simp only [List.size_toArray, List.length_cons, List.length_nil]; omega)); k_whole); (try simp only [List.size_toArray, List.length_cons, List.length_nil])))) | walk1 | (dsimp only; walk1) | (leave1; (try dsimp only)) | fail "no step"))
      all_goals exact hret _ ((_, tok2 _ _ _ _) :: news) _ _ (by k_asm) (dropx (by k_asm) (by walk_at "my_subs")) ⟨_, _, rfl, fun p hp => Nat.ne_of_lt (allLt_mem _ (by walk_at "my_allLt") p hp), due_int rfl e, rfl⟩))) only [↓boxed]
theorem li_3 (w : World) (y : Int) (ty : Tok) (x : PySem.Str) (hok : PyData.strOk x = true) (hx : x.length ≤ 100) (tx : Tok) (x2 : PySem.Str) (hok2 : PyData.strOk x2 = true) (hxx : x2.length ≤ 100) (t2 : Tok) (t : Tok) (l k : Nat) (news : List (Addr × Obj)) (h1 : (l, listObj [.int y ty, .str x tx, .str x2 t2] k) ∈ news)  : Tel w 376 [.ref l] 20 200 news (RetDue (if y < 1 ∨ 255 < y then .bad "FC" else .ok (.n (fm x x2 ((x.length : Int) + 1 - y).toNat y))) news) (fun _ => False) := by
  refine Box.out ?_
  simp (disch :=
    k_dflt ((
    refine keepP ?_
    walk_at "my_go"
    intro lo mean mg mb dp un gd outer A₀ base h₀ L hp0 gn0 dr0 tk0 os0 Q E B F X N T hd0 hu0 hP hret hexcN hexc
    (try dsimp only at F)
    (repeat' (first | (k_unfold; (try dsimp only)) | (k_end; kc_close) | ((with_reducible show wpAny _ _ (call (Value.ref _) _) _ _ _); first | with_reducible ((k_here; (with_reducible show wpAny _ _ (call (Value.ref 355) [Value.int _ _, Value.int _ _]) _ _ _); k_dflt (ktr_call z9 (size_i _ _ _ 1 ?p1 _ _ _); (case p1 => first | rfl | decide +kernel | simp [*]); skip); (((case ke => exact fun _ _ _ _ _ _ hk9 => (show False from hk9).elim); intro v9 n9 h9 tk9 F9 N9 hv9; obtain ⟨hv9, e2⟩ := hv9; replace e2 := e2.symm; subst e2; rcases hv9 with ⟨lo9, hi9, e1⟩ | ⟨bad9, t9, e1⟩; all_goals (subst e1; (try dsimp only); (try k_fold))))))) | ((with_reducible show wpAny _ _ (subscriptTail _ _ _ _) _ _ _); first | with_reducible ((k_here; (with_reducible show wpAny _ _ (subscriptTail _ _ (Value.ref _) (Value.int _ _)) _ _ _); (with_unfolding_all refine' item_list (News.isList ?n ?m) ?h0 ?hf ?hx ?_ ?hs ?hg; (case n => k_asm); (case m => tm_at "mem"); (case h0 => omega); (case hf => omega); (case hx => first | ((simp only [List.getElem?_toArray, Int.toNat_natCast]); assumption) | exact get0 | exact get1 | exact get2 | exact get3); (case hs => with_unfolding_all rfl); (case hg => intro _; with_unfolding_all rfl); k_whole)))) | ((with_reducible show wpAny _ _ (call (Value.builtin _) _) _ _ _); first | with_reducible ((k_here; (with_reducible show wpAny _ _ (call (Value.builtin _) [Value.ref _]) _ _ _); k_dflt (refine' len_list (News.isList ?n ?m) ?f ?_; (case n => k_asm); (case m => tm_at "mem"); (case f => first | (simp only [List.size_toArray]; omega) | (simp only [List.size_toArray, List.length_cons, List.length_nil]; omega)); k_whole); (try simp only [List.size_toArray, List.length_cons, List.length_nil])))) | ((with_reducible show wpAny _ _ (exec (Stmt.For _ _ _ _ _) _) _ _ _); refine held ?_) | walk1 | (dsimp only; walk1) | (leave1; (try dsimp only)) | fail "no step"))
    all_goals try (exact hret _ ((_, tok2 _ _ _ _) :: news) _ _ (by k_asm) (dropx (by k_asm) (by walk_at "my_subs")) ⟨_, _, rfl, fun p hp => Nat.ne_of_lt (allLt_mem _ (by walk_at "my_allLt") p hp), due_bad (if_pos (by assumption)), rfl⟩)
    unfold Held
    refine' li_for (y := y) (by kernel_rfl) (by kernel_rfl) B X T hd0 hu0 hP hok hx hok2 hxx (by omega) (by omega) (by k_asm) (by k_asm) ?m1 ?m2 ?m3 (fun a t1 t3 n h' tk' m' lt F N => ?_) (fun h' tk' m' e F N => ?_)
    case m1 => ((try dsimp only); tm_at "lk")
    case m2 => ((try dsimp only); tm_at "lk")
    case m3 => ((try dsimp only); tm_at "lk")
    · exact hret _ ((_, tok2 _ _ _ _) :: news) _ _ F (dropx N (by walk_at "my_subs")) ⟨_, _, rfl, fun p hp => Nat.ne_of_lt (lt p (by first | exact hp | (simp only [List.mem_cons, hp, or_true]))), due_int (if_neg (by omega)) rfl, rfl⟩
    · (try dsimp only)
      (repeat' (first | (k_unfold; (try dsimp only)) | (k_end; kc_close) | ((with_reducible show wpAny _ _ (call (Value.ref _) _) _ _ _); first | with_reducible ((k_here; (with_reducible show wpAny _ _ (call (Value.ref 355) [Value.int _ _, Value.int _ _]) _ _ _); k_dflt (ktr_call z9 (size_i _ _ _ 1 ?p1 _ _ _); (case p1 => first | rfl | decide +kernel | simp [*]); skip); (((case ke => exact fun _ _ _ _ _ _ hk9 => (show False from hk9).elim); intro v9 n9 h9 tk9 F9 N9 hv9; obtain ⟨hv9, e2⟩ := hv9; replace e2 := e2.symm; subst e2; rcases hv9 with ⟨lo9, hi9, e1⟩ | ⟨bad9, t9, e1⟩; all_goals (subst e1; (try dsimp only); (try k_fold))))))) | ((with_reducible show wpAny _ _ (subscriptTail _ _ _ _) _ _ _); first | with_reducible ((k_here; (with_reducible show wpAny _ _ (subscriptTail _ _ (Value.ref _) (Value.int _ _)) _ _ _); (with_unfolding_all refine' item_list (News.isList ?n ?m) ?h0 ?hf ?hx ?_ ?hs ?hg; (case n => k_asm); (case m => tm_at "mem"); (case h0 => omega); (case hf => omega); (case hx => first | ((simp only [List.getElem?_toArray, Int.toNat_natCast]); assumption) | exact get0 | exact get1 | exact get2 | exact get3); (case hs => with_unfolding_all rfl); (case hg => intro _; with_unfolding_all rfl); k_whole)))) | ((with_reducible show wpAny _ _ (call (Value.builtin _) _) _ _ _); first | with_reducible ((k_here; (with_reducible show wpAny _ _ (call (Value.builtin _) [Value.ref _]) _ _ _); k_dflt (refine' len_list (News.isList ?n ?m) ?f ?_; (case n => k_asm); (case m => tm_at "mem"); (case f => first | (simp only [List.size_toArray]; omega) | (simp only [List.size_toArray, List.length_cons, List.length_nil]; omega)); k_whole); (try simp only [List.size_toArray, List.length_cons, List.length_nil])))) | walk1 | (dsimp only; walk1) | (leave1; (try dsimp only)) | fail "no step"))
      all_goals exact hret _ ((_, tok2 _ _ _ _) :: news) _ _ (by k_asm) (dropx (by k_asm) (by walk_at "my_subs")) ⟨_, _, rfl, fun p hp => Nat.ne_of_lt (allLt_mem _ (by walk_at "my_allLt") p hp), due_int (if_neg (by omega)) e, rfl⟩))) only [↓boxed]
end
section
theorem left_eq : ∀ x ∈ TXTS, ∀ y ∈ NUMS, (y < 0 ∨ 255 < y) ∨ Txt.join "" (selU (fun i => decide ((i : Int) < y)) x.cps x.cps.size) = Txt.slice x none (some y) := by decide +kernel
theorem right_eq : ∀ x ∈ TXTS, ∀ y ∈ NUMS, (y < 0 ∨ 255 < y) ∨ Txt.join "" (selU (fun i => decide ((x.length : Int) - y ≤ (i : Int))) x.cps x.cps.size) = Txt.slice x (some (if (0 : Int) > (x.length : Int) - y then 0 else (x.length : Int) - y)) none := by decide +kernel
theorem mid2_eq : ∀ x ∈ TXTS, ∀ y ∈ NUMS, (y < 1 ∨ 255 < y) ∨ Txt.join "" (selU (fun i => decide (y - 1 ≤ (i : Int)) && decide ((i : Int) < (x.length : Int))) x.cps x.cps.size) = Txt.slice x (some (y - 1)) (some (y - 1 + 255)) := by decide +kernel
theorem mid3_eq : ∀ x ∈ TXTS, ∀ y ∈ NUMS, ∀ z ∈ NUMS, (y < 1 ∨ 255 < y) ∨ (z < 0 ∨ 255 < z) ∨ Txt.join "" (selU (fun i => decide (y - 1 ≤ (i : Int)) && decide ((i : Int) < y - 1 + z)) x.cps x.cps.size) = Txt.slice x (some (y - 1)) (some (y - 1 + z)) := by decide +kernel
theorem asc_eq : ∀ x ∈ TXTS, x = "" ∨ (Builtin.bitAnd (((Txt.item x 0).cps.getD 0 0 : Nat) : Int) 255 = (((Txt.item x 0).cps.getD 0 0 : Nat) : Int) ∧ 0 < x.length ∧ (x != "") = true) := by decide +kernel
theorem asc_all : ∀ x ∈ TXTS, x.cps.all (· < 128) = true := by decide +kernel
theorem ins_eq : ∀ x ∈ TXTS, ∀ x2 ∈ TXTS, ∀ y ∈ NUMS, (y < 1 ∨ 255 < y) ∨ fm x x2 ((x.length : Int) + 1 - y).toNat y = plV y x x2 := by decide +kernel
theorem Tel.due {w : World} {f : Addr} {vs : List Value} {d u d' u' : Nat} {news : List (Addr × Obj)} {r r' : Res} (C : Tel w f vs d u news (RetDue r news) (fun _ => False)) (h1 : d ≤ d') (h2 : u ≤ u') (e : r = r') : Tel w f vs d' u' news (RetDue r' news) (fun _ => False) := e ▸ C.mono h1 h2 (fun _ _ z => z) fun _ z => z
theorem lval_all (w : World) (x : PySem.Str) (h : x ∈ TXTS) (t : Tok) (news : List (Addr × Obj)) : Tel w 369 [.str x t] 20 200 news (RetDue (valRes x) news) (fun _ => False) := by
  simp only [TXTS, List.mem_cons, List.not_mem_nil, or_false] at h
  rcases h with rfl | rfl | rfl | rfl | rfl | rfl | rfl | rfl | rfl
  · exact (lval0 w t news).due (Nat.le_refl _) (Nat.le_refl _) (by kernel_rfl)
  · exact (lval1 w t news).due (Nat.le_refl _) (Nat.le_refl _) (by kernel_rfl)
  · exact (lval2 w t news).due (Nat.le_refl _) (Nat.le_refl _) (by kernel_rfl)
  · exact (lval3 w t news).due (Nat.le_refl _) (Nat.le_refl _) (by kernel_rfl)
  · exact (lval4 w t news).due (Nat.le_refl _) (Nat.le_refl _) (by kernel_rfl)
  · exact (lval5 w t news).due (Nat.le_refl _) (Nat.le_refl _) (by kernel_rfl)
  · exact (lval6 w t news).due (Nat.le_refl _) (Nat.le_refl _) (by kernel_rfl)
  · exact (lval7 w t news).due (Nat.le_refl _) (Nat.le_refl _) (by kernel_rfl)
  · exact (lval8 w t news).due (Nat.le_refl _) (Nat.le_refl _) (by kernel_rfl)
theorem lins_all (w : World) (ds : List Dv) (hl : (∃ d d2, ds = [d, d2]) ∨ ∃ d d2 d3, ds = [d, d2, d3]) (hin : ∀ d ∈ ds, d.In) (ws : List Value) (hA : ArgsAt ds ws) (t : Tok) (l k : Nat) (news : List (Addr × Obj)) (h1 : (l, listObj ws k) ∈ news) :
    Tel w 376 [.ref l] 20 200 news (RetDue (insR ds) news) (fun _ => False) := by
  have ok : ∀ x, Dv.s x ∈ ds → x.length ≤ 100 ∧ PyData.strOk x = true := fun x e => txts_ok x (hin (.s x) e)
  rcases hl with ⟨a, b, rfl⟩ | ⟨a, b, c, rfl⟩
  · obtain ⟨w1, r1, rfl, i1, A1⟩ := hA.cons
    obtain ⟨w2, r2, rfl, i2, A2⟩ := A1.cons
    obtain rfl := A2.nil
    cases a with
    | n y => obtain ⟨t1, rfl⟩ := i1; exact li_2i w y t1 w2 t l k news h1
    | s x =>
      obtain ⟨t1, rfl⟩ := i1
      obtain ⟨f1, f2⟩ := ok x (by simp)
      cases b with
      | n z => obtain ⟨t2, rfl⟩ := i2; exact li_2s w x t1 z t2 t l k news h1
      | s x2 =>
        obtain ⟨t2, rfl⟩ := i2
        obtain ⟨g1, g2⟩ := ok x2 (by simp)
        refine (li_2 w x f2 f1 t1 x2 g2 g1 t2 t l k news h1).due (Nat.le_refl _) (Nat.le_refl _) ?_
        rcases ins_eq x (hin (.s x) (by simp)) x2 (hin (.s x2) (by simp)) 1 (by decide) with h | h
        · exact absurd h (by decide)
        · rw [h]; rfl
  · obtain ⟨w1, r1, rfl, i1, A1⟩ := hA.cons
    obtain ⟨w2, r2, rfl, i2, A2⟩ := A1.cons
    obtain ⟨w3, r3, rfl, i3, A3⟩ := A2.cons
    obtain rfl := A3.nil
    cases a with
    | s x => obtain ⟨t1, rfl⟩ := i1; exact (li_3s w x t1 w2 w3 t l k news h1).due (Nat.le_refl _) (Nat.le_refl _) (by cases b <;> rfl)
    | n y =>
      obtain ⟨t1, rfl⟩ := i1
      cases b with
      | n z => obtain ⟨t2, rfl⟩ := i2; exact li_3i w y t1 z t2 w3 t l k news h1
      | s x =>
        obtain ⟨t2, rfl⟩ := i2
        obtain ⟨f1, f2⟩ := ok x (by simp)
        cases c with
        | n z => obtain ⟨t3, rfl⟩ := i3; exact li_3j w y t1 x t2 z t3 t l k news h1
        | s x2 =>
          obtain ⟨t3, rfl⟩ := i3
          obtain ⟨g1, g2⟩ := ok x2 (by simp)
          refine (li_3 w y t1 x f2 f1 t2 x2 g2 g1 t3 t l k news h1).due (Nat.le_refl _) (Nat.le_refl _) ?_
          show (if y < 1 ∨ 255 < y then Res.bad "FC" else _) = (if y < 1 ∨ 255 < y then Res.bad "FC" else .ok (.n (plV y x x2)))
          by_cases hy : y < 1 ∨ 255 < y
          · rw [if_pos hy, if_pos hy]
          · rw [if_neg hy, if_neg hy]
            rcases ins_eq x (hin (.s x) (by simp)) x2 (hin (.s x2) (by simp)) y (hin (.n y) (by simp)) with h | h
            · exact absurd h hy
            · rw [h]
theorem strne {a b : PySem.Str} (h : a ≠ b) : (a == b) = false := by simpa using h
theorem ltext_all (w : World) (wd : PySem.Str) (hw : wd = "LEN" ∨ wd = "VAL" ∨ wd = "ASC" ∨ wd = "LEFT$" ∨ wd = "RIGHT$" ∨ wd = "MID$") (ds : List Dv) (hcr : crP wd (ds.length : Int) = true) (hin : ∀ d ∈ ds, d.In) (ws : List Value) (hA : ArgsAt ds ws) (t : Tok) (l k : Nat) (news : List (Addr × Obj)) (h1 : (l, listObj ws k) ∈ news) :
    Tel w 381 [.str wd t, .ref l] 30 300 news (RetDue (textRes wd ds) news) (fun _ => False) := by
  have ok : ∀ x, Dv.s x ∈ ds → x.length ≤ 100 ∧ PyData.strOk x = true ∧ x.cps.all (· < 128) = true := fun x e => ⟨(txts_ok x (hin (.s x) e)).1, (txts_ok x (hin (.s x) e)).2, asc_all x (hin (.s x) e)⟩
  rcases hw with rfl | rfl | rfl | rfl | rfl | rfl
  · obtain ⟨a, rfl⟩ := one_of hcr (by decide +kernel) (by decide +kernel)
    obtain ⟨w1, r1, rfl, i1, A1⟩ := hA.cons
    obtain rfl := A1.nil
    rw [textRes_len]
    cases a with
    | n y => obtain ⟨t1, rfl⟩ := i1; exact lt_tm w _ (by decide +kernel) y t1 _ t l k news h1
    | s x =>
      obtain ⟨t1, rfl⟩ := i1
      obtain ⟨f1, f2, f3⟩ := ok x (by simp)
      exact lt_len w x f2 f1 f3 t1 t l k news h1
  · obtain ⟨a, rfl⟩ := one_of hcr (by decide +kernel) (by decide +kernel)
    obtain ⟨w1, r1, rfl, i1, A1⟩ := hA.cons
    obtain rfl := A1.nil
    rw [textRes_val]
    cases a with
    | n y => obtain ⟨t1, rfl⟩ := i1; exact lt_tm w _ (by decide +kernel) y t1 _ t l k news h1
    | s x =>
      obtain ⟨t1, rfl⟩ := i1
      obtain ⟨f1, f2, f3⟩ := ok x (by simp)
      exact lt_val w x f2 f1 f3 t1 _ (fun t big => lval_all w x (hin (.s x) (by simp)) t big) t l k news h1
  · obtain ⟨a, rfl⟩ := one_of hcr (by decide +kernel) (by decide +kernel)
    obtain ⟨w1, r1, rfl, i1, A1⟩ := hA.cons
    obtain rfl := A1.nil
    rw [textRes_asc]
    cases a with
    | n y => obtain ⟨t1, rfl⟩ := i1; exact lt_tm w _ (by decide +kernel) y t1 _ t l k news h1
    | s x =>
      obtain ⟨t1, rfl⟩ := i1
      obtain ⟨f1, f2, f3⟩ := ok x (by simp)
      rcases asc_eq x (hin (.s x) (by simp)) with rfl | ⟨e1, e2, e3⟩
      · exact (lt_asc0 w t1 t l k news h1).due (Nat.le_refl _) (Nat.le_refl _) (by kernel_rfl)
      · refine (lt_asc w x f2 f1 f3 t1 e3 e2 t l k news h1).due (Nat.le_refl _) (Nat.le_refl _) ?_
        show _ = if x = "" then Res.bad "FC" else _
        rw [if_neg (by simpa using e3), e1]
  · obtain ⟨a, b, rfl⟩ := two_of hcr (by decide +kernel)
    obtain ⟨w1, r1, rfl, i1, A1⟩ := hA.cons
    obtain ⟨w2, r2, rfl, i2, A2⟩ := A1.cons
    obtain rfl := A2.nil
    rw [textRes_left]
    cases a with
    | n y => obtain ⟨t1, rfl⟩ := i1; exact lt_tm w _ (by decide +kernel) y t1 _ t l k news h1
    | s x =>
      obtain ⟨t1, rfl⟩ := i1
      obtain ⟨f1, f2, f3⟩ := ok x (by simp)
      cases b with
      | s x2 => obtain ⟨t2, rfl⟩ := i2; exact lt_w1 w _ (by decide +kernel) (by decide +kernel) (by decide +kernel) (by decide +kernel) x t1 x2 t2 t l k news h1
      | n y =>
        obtain ⟨t2, rfl⟩ := i2
        refine (lt_left w x f2 f1 f3 t1 y t2 _ rfl t l k news h1).due (Nat.le_refl _) (Nat.le_refl _) ?_
        show (if y < 0 ∨ 255 < y then Res.bad "FC" else _) = (if y < 0 ∨ 255 < y then Res.bad "FC" else _)
        by_cases hy : y < 0 ∨ 255 < y
        · rw [if_pos hy, if_pos hy]
        · rw [if_neg hy, if_neg hy]
          rcases left_eq x (hin (.s x) (by simp)) y (hin (.n y) (by simp)) with h | h
          · exact absurd h hy
          · rw [h]
  · obtain ⟨a, b, rfl⟩ := two_of hcr (by decide +kernel)
    obtain ⟨w1, r1, rfl, i1, A1⟩ := hA.cons
    obtain ⟨w2, r2, rfl, i2, A2⟩ := A1.cons
    obtain rfl := A2.nil
    rw [textRes_right]
    cases a with
    | n y => obtain ⟨t1, rfl⟩ := i1; exact lt_tm w _ (by decide +kernel) y t1 _ t l k news h1
    | s x =>
      obtain ⟨t1, rfl⟩ := i1
      obtain ⟨f1, f2, f3⟩ := ok x (by simp)
      cases b with
      | s x2 => obtain ⟨t2, rfl⟩ := i2; exact lt_w1 w _ (by decide +kernel) (by decide +kernel) (by decide +kernel) (by decide +kernel) x t1 x2 t2 t l k news h1
      | n y =>
        obtain ⟨t2, rfl⟩ := i2
        refine (lt_o2 w _ (by decide +kernel) (by decide +kernel) (by decide +kernel) (by decide +kernel) (by decide +kernel) (by decide +kernel) x f2 f1 f3 t1 y t2 _ rfl t l k news h1).due (Nat.le_refl _) (Nat.le_refl _) ?_
        show (if y < 0 ∨ 255 < y then Res.bad "FC" else _) = (if y < 0 ∨ 255 < y then Res.bad "FC" else _)
        by_cases hy : y < 0 ∨ 255 < y
        · rw [if_pos hy, if_pos hy]
        · rw [if_neg hy, if_neg hy]
          rcases right_eq x (hin (.s x) (by simp)) y (hin (.n y) (by simp)) with h | h
          · exact absurd h hy
          · rw [h]
  · rw [textRes_mid]
    rcases many_of hcr (by decide +kernel) (by decide +kernel) with ⟨a, b, rfl⟩ | ⟨a, b, c, rfl⟩
    · obtain ⟨w1, r1, rfl, i1, A1⟩ := hA.cons
      obtain ⟨w2, r2, rfl, i2, A2⟩ := A1.cons
      obtain rfl := A2.nil
      cases a with
      | n y => obtain ⟨t1, rfl⟩ := i1; exact lt_tm w _ (by decide +kernel) y t1 _ t l k news h1
      | s x =>
        obtain ⟨t1, rfl⟩ := i1
        obtain ⟨f1, f2, f3⟩ := ok x (by simp)
        cases b with
        | s x2 => obtain ⟨t2, rfl⟩ := i2; exact lt_w1 w _ (by decide +kernel) (by decide +kernel) (by decide +kernel) (by decide +kernel) x t1 x2 t2 t l k news h1
        | n y =>
          obtain ⟨t2, rfl⟩ := i2
          refine (lt_m2 w x f2 f1 f3 t1 y t2 _ rfl t l k news h1).due (Nat.le_refl _) (Nat.le_refl _) ?_
          show (if y < 1 ∨ 255 < y then Res.bad "FC" else _) = (if y < 1 ∨ 255 < y then Res.bad "FC" else _)
          by_cases hy : y < 1 ∨ 255 < y
          · rw [if_pos hy, if_pos hy]
          · rw [if_neg hy, if_neg hy]
            rcases mid2_eq x (hin (.s x) (by simp)) y (hin (.n y) (by simp)) with h | h
            · exact absurd h hy
            · rw [h]
    · obtain ⟨w1, r1, rfl, i1, A1⟩ := hA.cons
      obtain ⟨w2, r2, rfl, i2, A2⟩ := A1.cons
      obtain ⟨w3, r3, rfl, i3, A3⟩ := A2.cons
      obtain rfl := A3.nil
      cases a with
      | n y => obtain ⟨t1, rfl⟩ := i1; exact lt_tm w _ (by decide +kernel) y t1 _ t l k news h1
      | s x =>
        obtain ⟨t1, rfl⟩ := i1
        obtain ⟨f1, f2, f3⟩ := ok x (by simp)
        cases b with
        | s x2 => obtain ⟨t2, rfl⟩ := i2; exact lt_w2 w _ (by decide +kernel) (by decide +kernel) (by decide +kernel) (by decide +kernel) x t1 x2 t2 _ w3 i3 t l k news h1
        | n y =>
          obtain ⟨t2, rfl⟩ := i2
          cases c with
          | s x3 => obtain ⟨t3, rfl⟩ := i3; exact lt_m3s w x t1 y t2 x3 t3 t l k news h1
          | n z =>
            obtain ⟨t3, rfl⟩ := i3
            refine (lt_m3 w x f2 f1 f3 t1 y t2 z t3 _ rfl t l k news h1).due (Nat.le_refl _) (Nat.le_refl _) ?_
            show (if y < 1 ∨ 255 < y then Res.bad "FC" else if z < 0 ∨ 255 < z then Res.bad "FC" else _) = (if y < 1 ∨ 255 < y then Res.bad "FC" else if z < 0 ∨ 255 < z then Res.bad "FC" else _)
            by_cases hy : y < 1 ∨ 255 < y
            · rw [if_pos hy, if_pos hy]
            · rw [if_neg hy, if_neg hy]
              by_cases hz : z < 0 ∨ 255 < z
              · rw [if_pos hz, if_pos hz]
              · rw [if_neg hz, if_neg hz]
                rcases mid3_eq x (hin (.s x) (by simp)) y (hin (.n y) (by simp)) z (hin (.n z) (by simp)) with h | h | h
                · exact absurd h hy
                · exact absurd h hz
                · rw [h]
theorem RetAny.of {r : Res} {news : List (Addr × Obj)} {w : World} {f : Addr} {vs : List Value} {d u d' u' : Nat} (C : Tel w f vs d u news (RetDue r news) (fun _ => False)) (h1 : d ≤ d') (h2 : u ≤ u') : Tel w f vs d' u' news (RetAny news) (fun _ => False) := C.mono h1 h2 (fun _ _ z => ⟨r, z⟩) fun _ z => z
theorem lany (w : World) (ds : List Dv) (hl : (∃ d d2, ds = [d, d2]) ∨ ∃ d d2 d3, ds = [d, d2, d3]) (hin : ∀ d ∈ ds, d.In) (ws : List Value) (hA : ArgsAt ds ws) (t : Tok) (l k : Nat) (news : List (Addr × Obj)) (h1 : (l, listObj ws k) ∈ news) :
    Tel w 381 [.str "INSTR" t, .ref l] 30 300 news (RetAny news) (fun _ => False) := by
  have ok : ∀ x, Dv.s x ∈ ds → x.length ≤ 100 ∧ PyData.strOk x = true ∧ x.cps.all (· < 128) = true := fun x e => ⟨(txts_ok x (hin (.s x) e)).1, (txts_ok x (hin (.s x) e)).2, asc_all x (hin (.s x) e)⟩
  rcases hl with ⟨a, b, rfl⟩ | ⟨a, b, c, rfl⟩
  · obtain ⟨w1, r1, rfl, i1, A1⟩ := hA.cons
    obtain ⟨w2, r2, rfl, i2, A2⟩ := A1.cons
    obtain rfl := A2.nil
    cases a with
    | n y => obtain ⟨t1, rfl⟩ := i1; exact RetAny.of (lt_tm w _ (by decide +kernel) y t1 _ t l k news h1) (Nat.le_refl _) (Nat.le_refl _)
    | s x =>
      obtain ⟨t1, rfl⟩ := i1
      obtain ⟨f1, f2, f3⟩ := ok x (by simp)
      cases b with
      | s x2 => obtain ⟨t2, rfl⟩ := i2; exact RetAny.of (lt_w1 w _ (by decide +kernel) (by decide +kernel) (by decide +kernel) (by decide +kernel) x t1 x2 t2 t l k news h1) (Nat.le_refl _) (Nat.le_refl _)
      | n y => obtain ⟨t2, rfl⟩ := i2; exact RetAny.of (lt_o2 w _ (by decide +kernel) (by decide +kernel) (by decide +kernel) (by decide +kernel) (by decide +kernel) (by decide +kernel) x f2 f1 f3 t1 y t2 _ rfl t l k news h1) (Nat.le_refl _) (Nat.le_refl _)
  · obtain ⟨w1, r1, rfl, i1, A1⟩ := hA.cons
    obtain ⟨w2, r2, rfl, i2, A2⟩ := A1.cons
    obtain ⟨w3, r3, rfl, i3, A3⟩ := A2.cons
    obtain rfl := A3.nil
    cases a with
    | n y => obtain ⟨t1, rfl⟩ := i1; exact RetAny.of (lt_tm w _ (by decide +kernel) y t1 _ t l k news h1) (Nat.le_refl _) (Nat.le_refl _)
    | s x =>
      obtain ⟨t1, rfl⟩ := i1
      obtain ⟨f1, f2, f3⟩ := ok x (by simp)
      cases b with
      | s x2 => obtain ⟨t2, rfl⟩ := i2; exact RetAny.of (lt_w2 w _ (by decide +kernel) (by decide +kernel) (by decide +kernel) (by decide +kernel) x t1 x2 t2 _ w3 i3 t l k news h1) (Nat.le_refl _) (Nat.le_refl _)
      | n y =>
        obtain ⟨t2, rfl⟩ := i2
        exact lt_o3 w _ (by decide +kernel) (by decide +kernel) (by decide +kernel) (by decide +kernel) (by decide +kernel) (by decide +kernel) x f2 f1 f3 t1 y t2 _ w3 i3 t l k news h1
end
section
noncomputable def pyd : Dv → PyData
  | .n x => .int x
  | .s x => .str x
noncomputable def okT (d : Dv) (j : Nat) : Bool := (PyData.tuple [pyd d, .int (j : Int)]).layable0 && (PyData.tuple [pyd d, .int (j : Int)]).intsShort 13 && (PyData.tuple [pyd d, .int (j : Int)]).showable
noncomputable def goodR : Res → Bool
  | .ok d => (List.range 20).all (okT d)
  | .bad k => PyData.strOk k
theorem num_good : ∀ wd ∈ WORDS, ∀ x ∈ NUMS, goodR (numR wd x) = true := by decide +kernel
theorem len_good : ∀ x ∈ TXTS, goodR (.ok (.n x.length)) = true := by decide +kernel
theorem val_good : ∀ x ∈ TXTS, goodR (valRes x) = true := by decide +kernel
theorem asc_good : ∀ x ∈ TXTS, goodR (ascR [.s x]) = true := by decide +kernel
theorem left_good : ∀ x ∈ TXTS, ∀ y ∈ NUMS, goodR (leftR [.s x, .n y]) = true := by decide +kernel
theorem right_good : ∀ x ∈ TXTS, ∀ y ∈ NUMS, goodR (rightR [.s x, .n y]) = true := by decide +kernel
theorem mid2_good : ∀ x ∈ TXTS, ∀ y ∈ NUMS, goodR (midR [.s x, .n y]) = true := by decide +kernel
theorem mid3_good : ∀ x ∈ TXTS, ∀ y ∈ NUMS, ∀ z ∈ NUMS, goodR (midR [.s x, .n y, .n z]) = true := by decide +kernel
theorem good_FC : goodR (.bad "FC") = true := by decide +kernel
theorem pl_small : ∀ x ∈ TXTS, ∀ x2 ∈ TXTS, ∀ y ∈ NUMS, (y < 1 ∨ 255 < y) ∨ plV y x x2 ∈ ([0, 1, 2, 3, 4, 5, 6, 7, 8] : List Int) := by decide +kernel
theorem good_small : ∀ n ∈ ([0, 1, 2, 3, 4, 5, 6, 7, 8] : List Int), goodR (.ok (.n n)) = true := by decide +kernel
theorem ins_good : ∀ x ∈ TXTS, ∀ x2 ∈ TXTS, ∀ y ∈ NUMS, goodR (insR [.n y, .s x, .s x2]) = true ∧ goodR (insR [.s x, .s x2]) = true := fun x hx x2 hx2 y hy => by
  constructor
  · show goodR (if y < 1 ∨ 255 < y then .bad "FC" else .ok (.n (plV y x x2))) = true
    by_cases h : y < 1 ∨ 255 < y
    · rw [if_pos h]; exact good_FC
    · rw [if_neg h]; exact good_small _ ((pl_small x hx x2 hx2 y hy).resolve_left h)
  · exact good_small _ ((pl_small x hx x2 hx2 1 (by decide)).resolve_left (by decide))
theorem good_TM : goodR (.bad "TM") = true := by decide +kernel
theorem good_SN : goodR (.bad "SN") = true := by decide +kernel
theorem good_if (p : Prop) [Decidable p] : goodR (if p then .bad "FC" else .bad "TM") = true := by
  split
  · exact good_FC
  · exact good_TM
theorem okT_of {d : Dv} (h : goodR (.ok d) = true) {j : Nat} (hj : j < 20) : okT d j = true := List.all_eq_true.mp h j (List.mem_range.mpr hj)
/-- repr of a pair: a thing and a count -/
theorem repr_pair {prog : Program} {w : World} {A : Around} {E : Value → Shared → Prop} {s : Shared} {h₀ : Heap} {L : Addr} {m : PySem.Str → Option Value} {news : List (Addr × Obj)} {a : Addr} {v : Value} {d : Dv} {j : Nat} {jt : Tok} {k : Nat} {Q : Value → Shared → Prop}
    (F : Fr h₀ L s.heap m) (N : News h₀ L s.heap news) (hm : (a, pairObj v j jt k) ∈ news) (hv : IsD d v) (ok : okT d j = true) (hg : A.guards = some []) (hu : A.units < 900)
    (hQ : ∀ h' u tk, Fr h₀ L h' m → News h₀ L h' news → Q (.str (PyData.tuple [pyd d, .int (j : Int)]).shown u) { s with heap := h', toks := tk }) :
    wpAny (model prog w) A (call (.builtin "repr") [.ref a]) Q E s := by
  unfold okT at ok
  simp only [Bool.and_eq_true] at ok
  have r : ReadsVia h₀ news (.ref a) (.tuple [pyd d, .int (j : Int)]) := fun h hk hn => by
    have rv : Reads h v (pyd d) [] := by
      cases d with
      | n x => obtain ⟨t, rfl⟩ := hv; exact .int x t
      | s x => obtain ⟨t, rfl⟩ := hv; exact .str x t
    exact ⟨_, .tuple (hn _ hm) rfl rfl (.cons rv (.cons (.int (j : Int) jt) .nil))⟩
  have hline := cLine_is
  have hdep : (PyData.tuple [pyd d, .int (j : Int)]).depth ≤ 3 := by cases d <;> simp [pyd, PyData.depth, PyData.depthAll]
  refine repr_via r F N ok.2 ?_ rfl hg (by omega) hQ (PyData.shown_fits_of_layable0 (B := 13) (by decide) (by decide) ok.1.1 ok.1.2)
  cases d <;> rfl
end
section
theorem prog_good (wd : PySem.Str) (hw : wd ∈ WORDS) (ds : List Dv) (hin : ∀ d ∈ ds, d.In) : goodR (progRes wd ds) = true := by
  unfold progRes
  by_cases hc : crP wd (ds.length : Int) = false
  · rw [if_pos hc]; exact good_SN
  rw [if_neg hc]
  have hc := eq_true_of_ne_false hc
  by_cases hnum : isNum wd = true
  · rw [if_pos hnum]
    obtain ⟨hws, hlr, hmi⟩ := words_num wd hw hnum
    obtain ⟨d, rfl⟩ := one_of hc hlr hmi
    cases d with
    | s x => exact good_TM
    | n x => exact num_good wd hw x (hin (.n x) (by simp))
  · rw [if_neg hnum]
    rcases words_text wd hw (Bool.eq_false_iff.mpr hnum) with rfl | rfl | rfl | rfl | rfl | rfl | rfl
    · obtain ⟨a, rfl⟩ := one_of hc (by decide +kernel) (by decide +kernel)
      rw [textRes_len]
      cases a with
      | n y => exact good_TM
      | s x => exact len_good x (hin (.s x) (by simp))
    · obtain ⟨a, rfl⟩ := one_of hc (by decide +kernel) (by decide +kernel)
      rw [textRes_val]
      cases a with
      | n y => exact good_TM
      | s x => exact val_good x (hin (.s x) (by simp))
    · obtain ⟨a, rfl⟩ := one_of hc (by decide +kernel) (by decide +kernel)
      rw [textRes_asc]
      cases a with
      | n y => exact good_TM
      | s x => exact asc_good x (hin (.s x) (by simp))
    · obtain ⟨a, b, rfl⟩ := two_of hc (by decide +kernel)
      rw [textRes_left]
      cases a with
      | n y => exact good_TM
      | s x => cases b with
        | s y => exact good_TM
        | n y => exact left_good x (hin (.s x) (by simp)) y (hin (.n y) (by simp))
    · obtain ⟨a, b, rfl⟩ := two_of hc (by decide +kernel)
      rw [textRes_right]
      cases a with
      | n y => exact good_TM
      | s x => cases b with
        | s y => exact good_TM
        | n y => exact right_good x (hin (.s x) (by simp)) y (hin (.n y) (by simp))
    · rw [textRes_mid]
      rcases many_of hc (by decide +kernel) (by decide +kernel) with ⟨a, b, rfl⟩ | ⟨a, b, c, rfl⟩
      · cases a with
        | n y => exact good_TM
        | s x => cases b with
          | s y => exact good_TM
          | n y => exact mid2_good x (hin (.s x) (by simp)) y (hin (.n y) (by simp))
      · cases a with
        | n y => exact good_TM
        | s x => cases b with
          | s y => exact good_TM
          | n y => cases c with
            | s z => exact good_if _
            | n z => exact mid3_good x (hin (.s x) (by simp)) y (hin (.n y) (by simp)) z (hin (.n z) (by simp))
    · rw [textRes_ins]
      rcases many_of hc (by decide +kernel) (by decide +kernel) with ⟨a, b, rfl⟩ | ⟨a, b, c, rfl⟩
      · cases a with
        | n y => exact good_TM
        | s x => cases b with
          | n y => exact good_TM
          | s x2 => exact (ins_good x (hin (.s x) (by simp)) x2 (hin (.s x2) (by simp)) 1 (by decide)).2
      · cases a with
        | s x => cases b <;> exact good_TM
        | n y => cases b with
          | n z => cases c <;> exact good_if _
          | s x => cases c with
            | n z => exact good_if _
            | s x2 => exact (ins_good x (hin (.s x) (by simp)) x2 (hin (.s x2) (by simp)) y (hin (.n y) (by simp))).1
end
section
section
variable {prog : Program} {w : World} {A : Around} {s : Shared} {h₀ : Heap} {L : Addr} {m : PySem.Str → Option Value} {env : Env}
theorem compEnd_mono {s₁ : Shared} {I C D : Addr} {oI oC oD : Obj} {S : List (Addr × Obj) → Prop} {rest rest' : Value → List (Addr × Obj) → Prop} (h : ∀ y n, rest y n → rest' y n) (y : Value) (s₂ : Shared) (x : LCg.CompEnd h₀ L m s₁ I oI C oC D oD S rest y s₂) : LCg.CompEnd h₀ L m s₁ I oI C oC D oD S rest' y s₂ := by
  obtain ⟨h', tk, news', e, F, N, o, hS, r⟩ := x
  exact ⟨h', tk, news', e, F, N, o, hS, h _ _ r⟩
theorem comp_ind {elt : PySem.Expr} {x : PySem.Str} {scope : Scope} {cl : List (PySem.Str × Addr)} {S : List (Addr × Obj) → Prop} {P : Nat → Value → Prop} {Fin : List Value → List (Addr × Obj) → Prop} {n : Nat} (J : Nat → List Value → List (Addr × Obj) → Prop)
    (step : ∀ i ys news, i < n → J i ys news → ∀ v I oI C oC D m₂ h tk (E' : Value → Shared → Prop), P i v → LCg.NsObj oC m₂ → m₂ x = some v → Fr h₀ L h m → News h₀ L h ((I, oI) :: (C, oC) :: (D, LCg.lst ys) :: news) → LCg.Off3 I C D news → ((@Ne Nat I C) ∧ (@Ne Nat I D) ∧ (@Ne Nat C D)) →
      wpAny (model prog w) A (eval elt (compEnvC scope cl C env)) (LCg.CompEnd h₀ L m { s with heap := h, toks := tk } I oI C oC D (LCg.lst ys) S (fun y news' => J (i + 1) (ys ++ [y]) news')) E' { s with heap := h, toks := tk })
    (fin : ∀ ys news, J n ys news → Fin ys news) :
    ∀ (k i : Nat) (ys : List Value) (news : List (Addr × Obj)), i + k = n → J i ys news → LCg.CompRest prog w A h₀ L m env elt x scope cl s S P Fin k i ys news := by
  intro k
  induction k with
  | zero =>
    intro i ys news e hJ
    have e' : i = n := by omega
    subst e'
    exact LCg.CompRest.zero (fin ys news hJ)
  | succ k ih =>
    intro i ys news e hJ
    refine LCg.CompRest.succ fun v I oI C oC D m₂ h tk E' hP hC hx F N off ne => ?_
    exact wpAny_mono (step i ys news (by omega) hJ v I oI C oC D m₂ h tk E' hP hC hx F N off ne) (fun y s₂ z => compEnd_mono (fun y n q => ih (i + 1) (ys ++ [y]) n (by omega) q) y s₂ z) fun _ _ q => q
end
theorem args_of : ∀ {vs : List Value}, (∀ v ∈ vs, IsIn v) → ∃ ds, ArgsAt ds vs ∧ ∀ d ∈ ds, d.In
  | [], _ => ⟨[], ⟨rfl, fun i d h => by simp at h⟩, fun d h => by cases h⟩
  | v :: r, h => by
    obtain ⟨d, hd, i⟩ := h v List.mem_cons_self
    obtain ⟨ds, hA, hin⟩ := args_of fun u hu => h u (List.mem_cons_of_mem _ hu)
    refine ⟨d :: ds, ⟨by simp [hA.1], fun j d' e => ?_⟩, fun d' hd' => ?_⟩
    · cases j with
      | zero => simp at e; subst e; exact ⟨v, rfl, i⟩
      | succ j => simp at e; obtain ⟨u, q, z⟩ := hA.2 j d' e; exact ⟨u, by simpa using q, z⟩
    · rcases List.mem_cons.mp hd' with rfl | hd'
      · exact hd
      · exact hin d' hd'
theorem allInts_of : ∀ {vs : List Value} {ns : List Int}, IntsAre vs ns → AllInts vs
  | _, _, .nil => fun v h => by cases h
  | _, _, .cons k t r => all_cons ⟨k, t, rfl⟩ (allInts_of r)
theorem two_bounds {x : PySem.Str} {news : List (Addr × Obj)} {v : Value} {n : List (Addr × Obj)} (_ : RetTwo (cLo x) (cHi x) news v n) : 1 ≤ cLo x ∧ cLo x ≤ cHi x ∧ cHi x ≤ 3 := c_bounds x
noncomputable def IsSm (v : Value) : Prop := ∃ x t, v = .int x t ∧ 0 ≤ x ∧ x ≤ 4
theorem item_anyR {prog : Program} {w : World} {A : Around} {E : Value → Shared → Prop} {s : Shared} {value slice : PySem.Expr} {l : Addr} {vs : List Value} {k : Int} {u : Tok} {P : Value → Prop} {Q : Value → Shared → Prop} (hl : s.heap.IsList l vs.toArray)
    (h0 : 0 ≤ k) (h1 : k < (vs.length : Int)) (hf : k < 2 ^ 63) (hall : ∀ v ∈ vs, P v) (h : ∀ v, P v → Q v s)
    (hs : subscripted slice false (.ref l) (.int k u) = operate [.ref l, .int k u] (getItem (.ref l) (.int k u)) := by with_unfolding_all rfl) :
    wpAny (model prog w) A (subscriptTail value slice (.ref l) (.int k u)) Q E s := by
  have hlt : k.toNat < vs.length := by omega
  exact subscriptTail_builtinR hl.typeIs slot_list_getitem.lookup (wpAny_getItem_list (x := vs[k.toNat]) hl h0 hf (by simp [hlt]) ⟨rfl, h _ (hall _ (List.getElem_mem hlt))⟩) hs
theorem words_okL : ∀ x ∈ WORDS, PyData.strOk x = true := by decide +kernel
theorem len20 {ys : List Value} {ns : List Int} {f : Int → Int} (h : ys.length = (List.map f (List.take 20 ns)).length) : ys.length ≤ 1000 := by rw [h, List.length_map, List.length_take]; omega
noncomputable def RetArgP (wl c : Addr) (k : Int) (n : Nat) (pre rest : List (Addr × Obj)) (v : Value) (n' : List (Addr × Obj)) : Prop := IsIn v ∧ ∃ t', n' = pre ++ (wl, wellO c (k + 2) t' n) :: rest
theorem argP (w : World) (wl c : Addr) (k : Int) (t : Tok) (n n2 : Nat) (cs : List Value) (pre rest : List (Addr × Obj)) (hc : (c, listObj cs n2) ∈ rest) (hcs : AllInts cs) (hlen : cs.length ≤ 1000) (hk1 : -1 ≤ k) (hk2 : k ≤ 90) (hoff : ∀ p ∈ rest, p.1 ≠ wl) (hoff2 : ∀ p ∈ pre, p.1 ≠ wl) (b : Bool) :
    Tel w 336 [.ref wl, .bool b] 15 150 (pre ++ (wl, wellO c k t n) :: rest) (RetArgP wl c k n pre rest) (fun _ => False) := by
  have mm := mem_mid pre rest (wl, wellO c k t n)
  refine ((argument w wl c k t n n2 cs (pre ++ rest) (List.mem_append_right _ hc) hcs hlen hk1 hk2 (fun p hp => (List.mem_append.mp hp).elim (hoff2 p) (hoff p)) b).perm' mm.1 mm.2).retn fun v n' z => ?_
  obtain ⟨i, t', e⟩ := z
  exact ⟨_, e ▸ (mem_mid pre rest _).2, i, t', rfl⟩
theorem arg3 (w : World) (wl c : Addr) (k : Int) (t : Tok) (n n2 : Nat) (cs : List Value) (p1 p2 p3 : Addr × Obj) (rest : List (Addr × Obj)) (hc : (c, listObj cs n2) ∈ rest) (hcs : AllInts cs) (hlen : cs.length ≤ 1000) (hk1 : -1 ≤ k) (hk2 : k ≤ 90) (hoff : ∀ p ∈ rest, p.1 ≠ wl) (hoff2 : ∀ p ∈ [p1, p2, p3], p.1 ≠ wl) (b : Bool) :
    Tel w 336 [.ref wl, .bool b] 15 150 (p1 :: p2 :: p3 :: (wl, wellO c k t n) :: rest) (RetArgP wl c k n [p1, p2, p3] rest) (fun _ => False) := argP w wl c k t n n2 cs [p1, p2, p3] rest hc hcs hlen hk1 hk2 hoff hoff2 b
theorem arg4 (w : World) (wl c : Addr) (k : Int) (t : Tok) (n n2 : Nat) (cs : List Value) (p1 p2 p3 p4 : Addr × Obj) (rest : List (Addr × Obj)) (hc : (c, listObj cs n2) ∈ rest) (hcs : AllInts cs) (hlen : cs.length ≤ 1000) (hk1 : -1 ≤ k) (hk2 : k ≤ 90) (hoff : ∀ p ∈ rest, p.1 ≠ wl) (hoff2 : ∀ p ∈ [p1, p2, p3, p4], p.1 ≠ wl) (b : Bool) :
    Tel w 336 [.ref wl, .bool b] 15 150 (p1 :: p2 :: p3 :: p4 :: (wl, wellO c k t n) :: rest) (RetArgP wl c k n [p1, p2, p3, p4] rest) (fun _ => False) := argP w wl c k t n n2 cs [p1, p2, p3, p4] rest hc hcs hlen hk1 hk2 hoff hoff2 b
theorem arg5 (w : World) (wl c : Addr) (k : Int) (t : Tok) (n n2 : Nat) (cs : List Value) (p1 p2 p3 p4 p5 : Addr × Obj) (rest : List (Addr × Obj)) (hc : (c, listObj cs n2) ∈ rest) (hcs : AllInts cs) (hlen : cs.length ≤ 1000) (hk1 : -1 ≤ k) (hk2 : k ≤ 90) (hoff : ∀ p ∈ rest, p.1 ≠ wl) (hoff2 : ∀ p ∈ [p1, p2, p3, p4, p5], p.1 ≠ wl) (b : Bool) :
    Tel w 336 [.ref wl, .bool b] 15 150 (p1 :: p2 :: p3 :: p4 :: p5 :: (wl, wellO c k t n) :: rest) (RetArgP wl c k n [p1, p2, p3, p4, p5] rest) (fun _ => False) := argP w wl c k t n n2 cs [p1, p2, p3, p4, p5] rest hc hcs hlen hk1 hk2 hoff hoff2 b
theorem arg6 (w : World) (wl c : Addr) (k : Int) (t : Tok) (n n2 : Nat) (cs : List Value) (p1 p2 p3 p4 p5 p6 : Addr × Obj) (rest : List (Addr × Obj)) (hc : (c, listObj cs n2) ∈ rest) (hcs : AllInts cs) (hlen : cs.length ≤ 1000) (hk1 : -1 ≤ k) (hk2 : k ≤ 90) (hoff : ∀ p ∈ rest, p.1 ≠ wl) (hoff2 : ∀ p ∈ [p1, p2, p3, p4, p5, p6], p.1 ≠ wl) (b : Bool) :
    Tel w 336 [.ref wl, .bool b] 15 150 (p1 :: p2 :: p3 :: p4 :: p5 :: p6 :: (wl, wellO c k t n) :: rest) (RetArgP wl c k n [p1, p2, p3, p4, p5, p6] rest) (fun _ => False) := argP w wl c k t n n2 cs [p1, p2, p3, p4, p5, p6] rest hc hcs hlen hk1 hk2 hoff hoff2 b
theorem arg7 (w : World) (wl c : Addr) (k : Int) (t : Tok) (n n2 : Nat) (cs : List Value) (p1 p2 p3 p4 p5 p6 p7 : Addr × Obj) (rest : List (Addr × Obj)) (hc : (c, listObj cs n2) ∈ rest) (hcs : AllInts cs) (hlen : cs.length ≤ 1000) (hk1 : -1 ≤ k) (hk2 : k ≤ 90) (hoff : ∀ p ∈ rest, p.1 ≠ wl) (hoff2 : ∀ p ∈ [p1, p2, p3, p4, p5, p6, p7], p.1 ≠ wl) (b : Bool) :
    Tel w 336 [.ref wl, .bool b] 15 150 (p1 :: p2 :: p3 :: p4 :: p5 :: p6 :: p7 :: (wl, wellO c k t n) :: rest) (RetArgP wl c k n [p1, p2, p3, p4, p5, p6, p7] rest) (fun _ => False) := argP w wl c k t n n2 cs [p1, p2, p3, p4, p5, p6, p7] rest hc hcs hlen hk1 hk2 hoff hoff2 b
theorem arg8 (w : World) (wl c : Addr) (k : Int) (t : Tok) (n n2 : Nat) (cs : List Value) (p1 p2 p3 p4 p5 p6 p7 p8 : Addr × Obj) (rest : List (Addr × Obj)) (hc : (c, listObj cs n2) ∈ rest) (hcs : AllInts cs) (hlen : cs.length ≤ 1000) (hk1 : -1 ≤ k) (hk2 : k ≤ 90) (hoff : ∀ p ∈ rest, p.1 ≠ wl) (hoff2 : ∀ p ∈ [p1, p2, p3, p4, p5, p6, p7, p8], p.1 ≠ wl) (b : Bool) :
    Tel w 336 [.ref wl, .bool b] 15 150 (p1 :: p2 :: p3 :: p4 :: p5 :: p6 :: p7 :: p8 :: (wl, wellO c k t n) :: rest) (RetArgP wl c k n [p1, p2, p3, p4, p5, p6, p7, p8] rest) (fun _ => False) := argP w wl c k t n n2 cs [p1, p2, p3, p4, p5, p6, p7, p8] rest hc hcs hlen hk1 hk2 hoff hoff2 b
theorem dip2 (w : World) (wl c : Addr) (k : Int) (t tm : Tok) (n n2 : Nat) (cs : List Value) (p1 p2 : Addr × Obj) (rest : List (Addr × Obj)) (hc : (c, listObj cs n2) ∈ rest) (hcs : AllInts cs) (hlen : cs.length ≤ 1000) (hk1 : -1 ≤ k) (hk2 : k ≤ 100) (hoff : ∀ p ∈ rest, p.1 ≠ wl) (hoff2 : ∀ p ∈ [p1, p2], p.1 ≠ wl) (m : Int) (hm : 0 < m) (hm2 : m ≤ 100) :
    Tel w 322 [.ref wl, .int m tm] 5 60 (p1 :: p2 :: (wl, wellO c k t n) :: rest) (RetDipP m wl c k n [p1, p2] rest) (fun _ => False) := dipP w wl c k t tm n n2 cs [p1, p2] rest hc hcs hlen hk1 hk2 hoff hoff2 m hm hm2
theorem dip3 (w : World) (wl c : Addr) (k : Int) (t tm : Tok) (n n2 : Nat) (cs : List Value) (p1 p2 p3 : Addr × Obj) (rest : List (Addr × Obj)) (hc : (c, listObj cs n2) ∈ rest) (hcs : AllInts cs) (hlen : cs.length ≤ 1000) (hk1 : -1 ≤ k) (hk2 : k ≤ 100) (hoff : ∀ p ∈ rest, p.1 ≠ wl) (hoff2 : ∀ p ∈ [p1, p2, p3], p.1 ≠ wl) (m : Int) (hm : 0 < m) (hm2 : m ≤ 100) :
    Tel w 322 [.ref wl, .int m tm] 5 60 (p1 :: p2 :: p3 :: (wl, wellO c k t n) :: rest) (RetDipP m wl c k n [p1, p2, p3] rest) (fun _ => False) := dipP w wl c k t tm n n2 cs [p1, p2, p3] rest hc hcs hlen hk1 hk2 hoff hoff2 m hm hm2
theorem dip4 (w : World) (wl c : Addr) (k : Int) (t tm : Tok) (n n2 : Nat) (cs : List Value) (p1 p2 p3 p4 : Addr × Obj) (rest : List (Addr × Obj)) (hc : (c, listObj cs n2) ∈ rest) (hcs : AllInts cs) (hlen : cs.length ≤ 1000) (hk1 : -1 ≤ k) (hk2 : k ≤ 100) (hoff : ∀ p ∈ rest, p.1 ≠ wl) (hoff2 : ∀ p ∈ [p1, p2, p3, p4], p.1 ≠ wl) (m : Int) (hm : 0 < m) (hm2 : m ≤ 100) :
    Tel w 322 [.ref wl, .int m tm] 5 60 (p1 :: p2 :: p3 :: p4 :: (wl, wellO c k t n) :: rest) (RetDipP m wl c k n [p1, p2, p3, p4] rest) (fun _ => False) := dipP w wl c k t tm n n2 cs [p1, p2, p3, p4] rest hc hcs hlen hk1 hk2 hoff hoff2 m hm hm2
theorem dip5 (w : World) (wl c : Addr) (k : Int) (t tm : Tok) (n n2 : Nat) (cs : List Value) (p1 p2 p3 p4 p5 : Addr × Obj) (rest : List (Addr × Obj)) (hc : (c, listObj cs n2) ∈ rest) (hcs : AllInts cs) (hlen : cs.length ≤ 1000) (hk1 : -1 ≤ k) (hk2 : k ≤ 100) (hoff : ∀ p ∈ rest, p.1 ≠ wl) (hoff2 : ∀ p ∈ [p1, p2, p3, p4, p5], p.1 ≠ wl) (m : Int) (hm : 0 < m) (hm2 : m ≤ 100) :
    Tel w 322 [.ref wl, .int m tm] 5 60 (p1 :: p2 :: p3 :: p4 :: p5 :: (wl, wellO c k t n) :: rest) (RetDipP m wl c k n [p1, p2, p3, p4, p5] rest) (fun _ => False) := dipP w wl c k t tm n n2 cs [p1, p2, p3, p4, p5] rest hc hcs hlen hk1 hk2 hoff hoff2 m hm hm2
theorem dip6 (w : World) (wl c : Addr) (k : Int) (t tm : Tok) (n n2 : Nat) (cs : List Value) (p1 p2 p3 p4 p5 p6 : Addr × Obj) (rest : List (Addr × Obj)) (hc : (c, listObj cs n2) ∈ rest) (hcs : AllInts cs) (hlen : cs.length ≤ 1000) (hk1 : -1 ≤ k) (hk2 : k ≤ 100) (hoff : ∀ p ∈ rest, p.1 ≠ wl) (hoff2 : ∀ p ∈ [p1, p2, p3, p4, p5, p6], p.1 ≠ wl) (m : Int) (hm : 0 < m) (hm2 : m ≤ 100) :
    Tel w 322 [.ref wl, .int m tm] 5 60 (p1 :: p2 :: p3 :: p4 :: p5 :: p6 :: (wl, wellO c k t n) :: rest) (RetDipP m wl c k n [p1, p2, p3, p4, p5, p6] rest) (fun _ => False) := dipP w wl c k t tm n n2 cs [p1, p2, p3, p4, p5, p6] rest hc hcs hlen hk1 hk2 hoff hoff2 m hm hm2
end
section
theorem caught_DX {w : World} {A₀ : Around} {E : Value → Shared → Prop} {s' : Shared} {h₀ g : Heap} {outer : List Env} {L a e : Addr} {m mg mb : PySem.Str → Option Value} {name : PySem.Str} {scope : Scope} {cd : Value} {cl : List (PySem.Str × Addr)} {n : PySem.Str} {b₀ : Stmt} {suite : List Stmt} {pos np : Pos} {rest : List ExceptHandler}
    {Q : Flow → Shared → Prop} {news : List (Addr × Obj)} {p : Program} {loose : List PySem.Str} {k : PySem.Str} (K : Below A₀ h₀ outer h₀) (F : Fr h₀ L g m) (hsm : g.UpToSlots s'.heap) (R : RaisedB h₀ (envX name scope L a cd cl :: outer) e k news s'.heap)
    (X : (hd.heap_1 w.params).In h₀) (T : TopRead p loose mg mb h₀)
    (kont : ∀ h' tk dx hs kt t sl vs, Fr h₀ L h' (fun y => if y = n then some (.ref e) else m y) → News h₀ L h' ((e, { cls := .ref 31, dict := some dx, data := .fields vs, slots := sl }) :: (dx, kindObj hs (Str.ofString "kind") kt k t) :: news) →
      wpAny (model PySem.Challenge.rw_pq1455_02.row.prog w) ((A₀.deeper (envX name scope L a cd cl)).mark (some (.ref e))) (execs (b₀ :: suite) (envX name scope L a cd cl))
        (fun f s₄ => wpAny (model PySem.Challenge.rw_pq1455_02.row.prog w) (A₀.deeper (envX name scope L a cd cl)) (do bindName (envX name scope L a cd cl) n .none; unbindBehindTheSuite (envX name scope L a cd cl) n pos) (fun _ s₅ => Q f s₅) E s₄)
        (AsSuiteRaised (model PySem.Challenge.rw_pq1455_02.row.prog w) ((A₀.deeper (envX name scope L a cd cl)).mark (some (.ref e))) (envX name scope L a cd cl) n pos (notedBy (model PySem.Challenge.rw_pq1455_02.row.prog w) ((A₀.deeper (envX name scope L a cd cl)).mark (some (.ref e))) (envX name scope L a cd cl) (cameBackBy (model PySem.Challenge.rw_pq1455_02.row.prog w) (A₀.deeper (envX name scope L a cd cl)) (envX name scope L a cd cl) E)))
        { s' with heap := h', toks := tk })
    (hk : scope.kind = .function) (hlo : (envX name scope L a cd cl).kindOf n = some .local) (hx : (envX name scope L a cd cl).kindOf (Str.ofString "BasicError") = some .globalImplicit) :
    wpAny (model PySem.Challenge.rw_pq1455_02.row.prog w) (A₀.deeper (envX name scope L a cd cl)) (noteFrame (.ref e) (envX name scope L a cd cl))
      (fun _ s₂ => wpAny (model PySem.Challenge.rw_pq1455_02.row.prog w) (A₀.deeper (envX name scope L a cd cl)) (setFlight (.ref e) none) (fun _ s₃ =>
        wpAny (model PySem.Challenge.rw_pq1455_02.row.prog w) (A₀.deeper (envX name scope L a cd cl)) (handleBy (.ref e) (envX name scope L a cd cl) (.ExceptHandler (some (.Name (Str.ofString "BasicError") np)) (some n) (b₀ :: suite) pos :: rest)) Q E s₃) E s₂) E s' := by
  obtain ⟨B, dx, hs, kt, t, hB, hl, hfl, hndx, hdx⟩ := R
  have hL : B.get? L = none := by
    obtain ⟨_, ⟨L', _, hf, hn', _⟩, _⟩ := hfl.2.2.1
    obtain rfl : L = L' := Option.some.inj hf
    exact hn'
  refine noteNextD (Around.frames_deeper K.stack) rfl hfl fun h₄ hheld₄ hsm₄ => ?_
  refine setFlightD hheld₄ fun h₅ hheld hsm₅' => ?_
  have hsm₅ := hsm₄.trans hsm₅'
  have st₅ : h₀.StaysIn h₅ := fun b o q => hheld.1 b o (hB b o q)
  have F₅ := F.of_stays st₅ (hsm.trans hsm₅)
  obtain ⟨oe, _, _, _, _, hoe, hoec, _⟩ := hheld.2.2.2
  have ex : nsIn (hd.heap_1 w.params) mainGlobals (Str.ofString "BasicError") = some (some (.ref 31)) := by with_unfolding_all rfl
  refine wpAny_handleBy_cons (codeAny_handlers_test (nameX_K F₅ X T ex ?_ hk hx (by decide))) (by intro q; cases q)
  obtain ⟨nm, qn, N, bs, bm, hdct, sn, sub, ab, col, dd, k0, k1, k2, k3, k5, newId, hC, hBE, _⟩ := kts_cls (X.keeps F₅.keep) (kts31 w.params)
  refine wpAny_excMatches_sub_self hC hoe hoec hBE (codeAny_handlers_suite_as ?_)
  refine setFlightD hheld fun h₆ hfl₆ hsm₆ => ?_
  have st₆ : h₀.StaysIn h₆ := fun b o q => hfl₆.1 b o (hB b o q)
  have F₆ := F₅.of_stays st₆ hsm₆
  obtain ⟨oe₆, vs, _, _, _, hoe₆, hc₆, hd₆, hdat₆, _⟩ := hfl₆.2.2.2
  obtain ⟨c6, d6, da6, sl⟩ := oe₆
  dsimp only at hc₆ hd₆ hdat₆
  subst hc₆ hd₆ hdat₆
  have he₀ : h₀.get? e = none := fresh_of_stays hB hfl₆.2.1
  have Nl : News h₀ L h₆ news := fun q hq => ⟨hfl₆.1 _ _ (hl q hq).1, (fun z => by have := (hl q hq).1; rw [z, hL] at this; cases this), (hl q hq).2⟩
  have Nd : News h₀ L h₆ ((dx, kindObj hs (Str.ofString "kind") kt k t) :: news) := fun q hq => by
    rcases List.mem_cons.mp hq with rfl | hq
    · exact ⟨hfl₆.1 _ _ hdx, (fun z => by have z' : dx = L := z; rw [z', hL] at hdx; cases hdx), hndx⟩
    · exact Nl q hq
  have Ne : News h₀ L h₆ ((e, { cls := .ref 31, dict := some dx, data := .fields vs, slots := sl }) :: (dx, kindObj hs (Str.ofString "kind") kt k t) :: news) := News.more F₆ Nd hoe₆ (fun es n q => by cases q) he₀
  exact storeX_L F₆ Ne (fun h₇ F₇ N₇ => kont h₇ _ dx hs kt t sl vs F₇ N₇) hk hlo
end
section
section
variable {prog : Program} {w : World} {A : Around} {E : Value → Shared → Prop} {s : Shared} {K : Frag} {x C : Addr} {ox : Obj} {od : Option Obj} {name : PySem.Str} {expr : Bool} {Q : Value → Shared → Prop}
theorem get_excv {v : Value} (X : K.In s.heap) (I : InstAt s.heap x ox C od)
    (hga : findIn K (.ref C) "__getattribute__" = some (some (.builtin "BaseException.__getattribute__"))) (hk : findIn K (.ref C) "__getattr__" = some none) (hi : subIn K (.ref C) (.type "BaseException") = some true)
    (hf : findObj K C od name = some (.value v)) (hh : handedIn v = true) (h : Q v { s with toks := s.toks + 1 }) : wpAny (model prog w) A (getAttr (.ref x) name expr) Q E s := by
  have ht := I.type (M := model prog w)
  have hb := looks_hook (M := model prog w) (mc := .ref C) X (r := none) (by rw [if_pos (by rfl)]; exact hk)
  refine wpAny_bind (wpAny_mkText (wpAny_holding (wpAny_bind (ht _ _ _ _ (fun _ _ e => e) (wpAny_bind (looks_findIn X hga _ _ _ _ (fun _ _ e => e) ?_))))))
  dsimp only
  rw [show (onTheHeap (.ref C) && Value.builtin "BaseException.__getattribute__" == Value.builtin "object.__getattribute__") = false from by rw [show (Value.builtin "BaseException.__getattribute__" == Value.builtin "object.__getattribute__") = false from by decide +kernel, Bool.and_false], if_neg (by decide)]
  refine wpAny_bind (hb _ _ _ _ (fun _ _ e => e) (wpAny_bind (wpAny_attempt (wpAny_holding ?_))))
  unfold callGetattribute
  rw [show (expr && onTheHeap (Value.builtin "BaseException.__getattribute__")) = false from Bool.and_false _, if_neg (by decide)]
  unfold boundAndCalled
  rw [PySem.F.attr_Exception.ga.bind]
  refine wpAny_bind (wpAny_pure ?_)
  show wpAny _ _ (call (.builtin "BaseException.__getattribute__") [.ref x, .str name s.toks]) _ _ _
  refine wpAny_call ?_
  refine codeAny_call_builtin PySem.F.attr_Exception.ga.plain PySem.F.entry_bexc_ga ?_
  refine @check_slot (model prog w) _ _ { s with toks := s.toks + 1 } "BaseException.__getattribute__" "BaseException" "__getattribute__" (.ref x) [.str name s.toks] [] _ (by decide +kernel) (by decide +kernel) (ht.andThen (looks_subIn X hi)) (PySem.F.args_bexc_ga (.ref x) (.str name s.toks)) ?_
  unfold Builtin.«object.__getattribute__»
  refine wpAny_bind (wpAny_pure (wpAny_bind (wpAny_pure (wpAny_bind (ht _ _ _ _ (fun _ _ e => e) (wpAny_bind (looks_find X I hf _ _ _ _ (fun _ _ e => e) ?_)))))))
  refine wpAny_pure ?_
  show wpAny _ _ (handedOut v) _ _ _
  rw [handedOut_of hh]; exact wpAny_pure h
end
theorem get_kind {w : World} {A : Around} {E : Value → Shared → Prop} {s : Shared} {h₀ : Heap} {L e dx : Addr} {m : PySem.Str → Option Value} {expr : Bool} {news : List (Addr × Obj)} {hs : Int} {kt t : Tok} {k : PySem.Str} {vs : Array Value} {sl : Array (Option Value)} {Q : Value → Shared → Prop}
    (F : Fr h₀ L s.heap m) (X : (hd.heap_1 w.params).In h₀) (N : News h₀ L s.heap news) (h1 : (e, ({ cls := .ref 31, dict := some dx, data := .fields vs, slots := sl } : Obj)) ∈ news) (h2 : (dx, kindObj hs (Str.ofString "kind") kt k t) ∈ news)
    (h : Q (.str k t) { s with toks := s.toks + 1 }) : wpAny (model PySem.Challenge.rw_pq1455_02.row.prog w) A (getAttr (.ref e) (Str.ofString "kind") expr) Q E s := by
  have X' := X.keeps F.keep
  revert X'; k_fill; intro X'
  have I : InstAt s.heap e { cls := .ref 31, dict := some dx, data := .fields vs, slots := sl } 31 (some (kindObj hs (Str.ofString "kind") kt k t)) := ⟨N.get h1, rfl, rfl, N.get h2⟩
  refine get_excv X' I (by k_dflt k_is) (by k_dflt k_is) (by k_dflt k_is) ?_ rfl h
  with_unfolding_all rfl
theorem name_goesX {M : Model} {A : Around} {E : Value → Shared → Prop} {s : Shared} {h₀ : Heap} {cn : PySem.Str} {cs : Scope} {L a : Addr} {ccd : Value} {cl : List (PySem.Str × Addr)} {m : PySem.Str → Option Value} {n : PySem.Str} {pos : Pos} {Q : Unit → Shared → Prop} (F : Fr h₀ L s.heap m)
    (h : ∀ h' v, Fr h₀ L h' (fun x => if x = n then v else m x) → Q () { s with heap := h', toks := s.toks + 1 })
    (hk : cs.kind = .function) (hl : (envX cn cs L a ccd cl).kindOf n = some .local) :
    wpAny M A (do bindName (envX cn cs L a ccd cl) n .none; unbindBehindTheSuite (envX cn cs L a ccd cl) n pos) Q E s :=
  wpAny_nameGoes_keeps hl F.ns (by show (cs.kind == .class || (cs.kind == .module && L != mainGlobals)) = false; rw [hk]; rfl) fun h' v hn hs => h h' v (F.set hn hs)
end
local macro_rules | `(tactic| k_all) => `(tactic| first | exact List.forall_mem_nil _ | (refine' List.forall_mem_cons.mpr ⟨?a, ?b⟩; (case a => k_ne); (case b => k_all)) | with_reducible assumption)
local macro_rules | `(tactic| walk_at "my_retLn") => `(tactic| ((case ke => exact fun _ _ _ _ _ _ hk9 => (show False from hk9).elim); intro v9 n9 h9 tk9 F9 N9 hv9; (unfold RetLn at hv9); obtain ⟨a9, vs9, k9, e1, lt9, len9, all9, e2⟩ := hv9; subst e1; replace e2 := e2.symm; subst e2; (try k_lt lt9); (try dsimp only); (try k_fold)))
local macro_rules | `(tactic| walk_at "call ref") => `(tactic| (k_here; (with_reducible show wpAny _ _ (call (Value.ref 341) [Value.str _ _, Value.int _ _]) _ _ _); k_dflt (ktr_call z9 (kinds_all _ _ ?p1 ?p2 _ ?p3 ?p4 _ _ _); (case p1 => with_reducible assumption); (case p2 => exact words_okL _ (by with_reducible assumption)); (case p3 => omega); (case p4 => omega)); walk_at "my_retLn"))
section
theorem argToks_len : ∀ (ds : List Dv), (argToks ds).length ≤ 3 * ds.length + 1
  | [] => by simp [argToks]
  | [d] => by have := toks_len d; simp only [argToks, List.length_append, List.length_cons, List.length_nil]; omega
  | d :: d2 :: r => by
    have h := argToks_len (d2 :: r)
    have := toks_len d
    simp only [argToks, List.length_append, List.length_cons, List.length_nil] at h ⊢
    omega
theorem lawToks_len (wd : PySem.Str) (ds : List Dv) (h : ds.length ≤ 4) : (lawToks wd ds).length < 20 := by
  have := argToks_len ds
  simp only [lawToks, List.length_cons]
  omega
theorem tup0 {a b : Value} : (#[a, b] : Array Value)[0]? = some a := rfl
theorem tup1 {a b : Value} : (#[a, b] : Array Value)[1]? = some b := rfl
theorem six0 {a b : Value} : seqIndex? 0 (#[a, b] : Array Value).size = some 0 := rfl
theorem six1 {a b : Value} : seqIndex? 1 (#[a, b] : Array Value).size = some 1 := rfl
set_option maxHeartbeats 0
theorem law_try {w : World} {sco : Scope} {body : List Stmt} {lo : List PySem.Str} {mean : ExcName → Option Value} {mg mb : PySem.Str → Option Value} {h₀ : Heap} {L a : Addr} {ccd : Value} {hp0 : Heap} {gn0 : Array GenState} {dr0 : Drawn} {tk0 : Nat} {os0 : OsState} {Q : Flow → Shared → Prop} {E : Value → Shared → Prop} {m0 : PySem.Str → Option Value} {tk du st dx rl vd ad n nn : Nat} {z1 z2 z3 z4 : Int} {t2 t3 t4 t5 t6 t7 t8 : Tok} {wd : PySem.Str} {vs : List Value} {ds : List Dv} {keep : List (Addr × Obj)} {o : Obj}
  (hsco : sco = scopeAt w.params 386) (hbody : body = (bodyAt w.params 386).drop 8) (K0 : Below callerA h₀ [] h₀) (T : Top viewQ lo mean mg mb h₀) (X : (hd.heap_1 w.params).In h₀)
  (F : Fr h₀ L hp0 m0) (m_due : m0 (Str.ofString "due") = some (.ref du)) (m_row : m0 (Str.ofString "row") = some (.ref tk)) (m_store : m0 (Str.ofString "store") = some (.ref st))
  (N : News h₀ L hp0 ((du, o) :: storeL st dx rl vd ad n z1 z2 z3 z4 t2 t3 t4 t5 t6 t7 t8 keep)) (hw : wd ∈ WORDS) (hn1 : 1 ≤ ds.length) (hn4 : ds.length ≤ 4) (hin : ∀ d ∈ ds, d.In) (hdue : DueOf (progRes wd ds) o)
  (h1 : (tk, listObj vs nn) ∈ keep) (hT : TokL keep vs (lawToks wd ds)) (hle : vs.length = (lawToks wd ds).length) (hdx : ∀ p ∈ keep, p.1 ≠ dx) (h10 : ∀ p ∈ keep, p.1 ≠ st) (h11 : rl < dx) (h12 : dx < st) (h13 : du ≠ dx) (h14 : du ≠ st)
  (hQ : ∀ h tk m, Fr h₀ L h m → Q (.ret (.bool true)) ⟨h, gn0, dr0, tk, os0⟩) :
    wpAny (model PySem.Challenge.rw_pq1455_02.row.prog w) (callerA.deeper (envX (Str.ofString "law") sco L a ccd [(Str.ofString "well", L + 1)])) (execs body (envX (Str.ofString "law") sco L a ccd [(Str.ofString "well", L + 1)])) Q E ⟨hp0, gn0, dr0, tk0, os0⟩ := by
  refine Box.out ?_
  simp (disch :=
    k_dflt ((
    refine keepP ?_
    subst hsco hbody
    have hlim := lim_is
    (rename Frag.In _ _ => X9; revert X9; k_fill; intro X9)
    conv in List.drop _ _ => whnf
    conv in (occs := *) scopeAt _ _ => all_goals whnf
    have hll := lawToks_len wd ds hn4
    have hgood := prog_good wd hw ds hin
    (repeat' (first | (k_unfold; (try dsimp only)) | (k_end; kc_close) | with_reducible ((k_here; k_dflt (refine' get_kind ?p1 ?p2 ?p3 ?p4 ?p5 ?_; (case p1 => k_asm); (case p2 => k_asm); (case p3 => k_asm); (case p4 => tm_at "mem"); (case p5 => tm_at "mem")))) | ((with_reducible show wpAny _ _ (exec (Stmt.Try _ _ _ _ _) _) _ _ _); with_reducible ((k_here; refine wpAny_Try_except ?_))) | ((with_reducible show wpAny _ _ (subscriptTail _ _ _ _) _ _ _); first | with_reducible ((k_here; (with_reducible show wpAny _ _ (subscriptTail _ _ (Value.ref _) (Value.int 1 _)) _ _ _); (with_unfolding_all refine' item_tuple (News.isTup ?n ?m) ?h0 ?hf ?hj ?hx ?_ ?hs ?hg; (case n => k_asm); (case m => tm_at "mem"); (case h0 => decide); (case hf => decide); (case hj => exact six1); (case hx => exact tup1); (case hs => with_unfolding_all rfl); (case hg => intro _; with_unfolding_all rfl); k_whole))) | with_reducible ((k_here; (with_reducible show wpAny _ _ (subscriptTail _ _ (Value.ref _) (Value.int 0 _)) _ _ _); (with_unfolding_all refine' item_tuple (News.isTup ?n ?m) ?h0 ?hf ?hj ?hx ?_ ?hs ?hg; (case n => k_asm); (case m => tm_at "mem"); (case h0 => decide); (case hf => decide); (case hj => exact six0); (case hx => exact tup0); (case hs => with_unfolding_all rfl); (case hg => intro _; with_unfolding_all rfl); k_whole)))) | ((with_reducible show wpAny _ _ (call (Value.builtin _) _) _ _ _); first | with_reducible ((k_here; (with_reducible show wpAny _ _ (call (Value.builtin "repr") [Value.ref _]) _ _ _); k_dflt (refine' repr_pair ?p1 ?p2 ?p3 ?p4 ?p5 ?p6 ?p7 ?_; (case p1 => k_asm); (case p2 => k_asm); (case p3 => tm_at "mem"); (case p4 => assumption); (case p5 => assumption); (case p6 => exact rfl); (case p7 => walk_at "my_units")); intro h' u' tk' F' N')) | with_reducible ((k_here; (with_reducible show wpAny _ _ (call (Value.builtin _) [Value.ref _]) _ _ _); k_dflt (refine' len_list (News.isList ?n ?m) ?f ?_; (case n => k_asm); (case m => tm_at "mem"); (case f => first | (simp only [List.size_toArray]; omega) | (simp only [List.size_toArray, List.length_cons, List.length_nil]; omega)); k_whole); (try simp only [List.size_toArray, List.length_cons, List.length_nil])))) | ((with_reducible show wpAny _ _ (call (Value.ref _) _) _ _ _); first | with_reducible ((k_here; (with_reducible show wpAny _ _ (call (Value.ref 231) _) _ _ _); refine hold ?_))) | ((with_reducible show wpAny _ _ (compareOp CmpOp.Eq _ _) _ _ _); first | with_reducible ((k_here; (with_reducible show wpAny _ _ (compareOp CmpOp.Eq (Value.ref _) (Value.ref _)) _ _ _); k_dflt (refine eq_dataH (by walk_at "my_read") (by walk_at "my_read") (by (first | rfl | decide +kernel | exact shaped_ss (by (first | assumption | decide +kernel)) (by (first | assumption | decide +kernel)) | exact shaped_si (by (first | assumption | decide +kernel)))) (by (first | rfl | decide +kernel | exact shaped_ss (by (first | assumption | decide +kernel)) (by (first | assumption | decide +kernel)) | exact shaped_si (by (first | assumption | decide +kernel)))) (by (((have hcL9 := cLine_is); (try simp only [units_in1, units_deeper, Around.mark_units, units_caller]); (try dsimp only [ktrTop]); first | omega | decide))) ?_); (((try simp only [PyData.eqv, PyData.eqvAll, List.any_cons, List.any_nil, eq_self, beq_self_eq_true, decide_true, Bool.and_true, Bool.true_and, Bool.and_false, Bool.false_and, Bool.or_false, Bool.false_or, Bool.not_true, Bool.not_false, Bool.true_or, Bool.or_true])))))) | walk1 | (dsimp only; walk1) | (leave1; (try dsimp only)) | fail "no step"))
    unfold Hold
    have C := (value_all w wd hw ds hn1 hn4 hin tk nn vs tk0 (by omega) st dx rl vd ad n z1 z2 z3 z4 t2 t3 t4 t5 t6 t7 t8 ((du, o) :: keep) (.tail _ h1) (hT.mono fun p hp => .tail _ hp) hle
      (fun p hp => by rcases List.mem_cons.mp hp with rfl | hp; exact h13; exact hdx p hp) (fun p hp => by rcases List.mem_cons.mp hp with rfl | hp; exact h14; exact h10 p hp) h11 h12).perm (l2 := (du, o) :: storeL st dx rl vd ad n z1 z2 z3 z4 t2 t3 t4 t5 t6 t7 t8 keep)
      (by intro p hp; simp only [storeL, List.mem_cons] at hp ⊢; rcases hp with h | h | h | h | h <;> simp only [h, true_or, or_true]) (by intro p hp; simp only [storeL, List.mem_cons] at hp ⊢; rcases hp with h | h | h | h | h <;> simp only [h, true_or, or_true])
    rw [← hle] at C hll
    k_dflt (refine' Tel.use C ?k1 ?k2 ?k3 ?k4 ?k5 ?k6 ?k7 ?k8 ?kr ?ke)
    case k1 => k_asm
    case k2 => k_asm
    case k3 => k_asm
    case k4 => k_asm
    case k5 => k_asm
    case k6 => first | exact rfl | assumption
    case k7 => walk_at "my_room"
    case k8 => walk_at "my_units"
    case kr =>
      intro v n' h' tk' F' N' hv
      obtain ⟨d, hr, a', t', k', w', rfl, hlt, hd', rfl⟩ := hv
      rw [hr] at hdue hgood
      obtain ⟨t9, v9, n9, rfl, hd9⟩ := hdue
      have hok := okT_of hgood hll
      clear C F N
      (try dsimp only)
      (try k_fold)
      (repeat' (first | (k_unfold; (try dsimp only)) | (k_end; kc_close) | with_reducible ((k_here; k_dflt (refine' get_kind ?p1 ?p2 ?p3 ?p4 ?p5 ?_; (case p1 => k_asm); (case p2 => k_asm); (case p3 => k_asm); (case p4 => tm_at "mem"); (case p5 => tm_at "mem")))) | ((with_reducible show wpAny _ _ (exec (Stmt.Try _ _ _ _ _) _) _ _ _); with_reducible ((k_here; refine wpAny_Try_except ?_))) | ((with_reducible show wpAny _ _ (subscriptTail _ _ _ _) _ _ _); first | with_reducible ((k_here; (with_reducible show wpAny _ _ (subscriptTail _ _ (Value.ref _) (Value.int 1 _)) _ _ _); (with_unfolding_all refine' item_tuple (News.isTup ?n ?m) ?h0 ?hf ?hj ?hx ?_ ?hs ?hg; (case n => k_asm); (case m => tm_at "mem"); (case h0 => decide); (case hf => decide); (case hj => exact six1); (case hx => exact tup1); (case hs => with_unfolding_all rfl); (case hg => intro _; with_unfolding_all rfl); k_whole))) | with_reducible ((k_here; (with_reducible show wpAny _ _ (subscriptTail _ _ (Value.ref _) (Value.int 0 _)) _ _ _); (with_unfolding_all refine' item_tuple (News.isTup ?n ?m) ?h0 ?hf ?hj ?hx ?_ ?hs ?hg; (case n => k_asm); (case m => tm_at "mem"); (case h0 => decide); (case hf => decide); (case hj => exact six0); (case hx => exact tup0); (case hs => with_unfolding_all rfl); (case hg => intro _; with_unfolding_all rfl); k_whole)))) | ((with_reducible show wpAny _ _ (call (Value.builtin _) _) _ _ _); first | with_reducible ((k_here; (with_reducible show wpAny _ _ (call (Value.builtin "repr") [Value.ref _]) _ _ _); k_dflt (refine' repr_pair ?p1 ?p2 ?p3 ?p4 ?p5 ?p6 ?p7 ?_; (case p1 => k_asm); (case p2 => k_asm); (case p3 => tm_at "mem"); (case p4 => assumption); (case p5 => assumption); (case p6 => exact rfl); (case p7 => walk_at "my_units")); intro h' u' tk' F' N')) | with_reducible ((k_here; (with_reducible show wpAny _ _ (call (Value.builtin _) [Value.ref _]) _ _ _); k_dflt (refine' len_list (News.isList ?n ?m) ?f ?_; (case n => k_asm); (case m => tm_at "mem"); (case f => first | (simp only [List.size_toArray]; omega) | (simp only [List.size_toArray, List.length_cons, List.length_nil]; omega)); k_whole); (try simp only [List.size_toArray, List.length_cons, List.length_nil])))) | ((with_reducible show wpAny _ _ (call (Value.ref _) _) _ _ _); first | with_reducible ((k_here; (with_reducible show wpAny _ _ (call (Value.ref 231) _) _ _ _); refine hold ?_))) | ((with_reducible show wpAny _ _ (compareOp CmpOp.Eq _ _) _ _ _); first | with_reducible ((k_here; (with_reducible show wpAny _ _ (compareOp CmpOp.Eq (Value.ref _) (Value.ref _)) _ _ _); k_dflt (refine eq_dataH (by walk_at "my_read") (by walk_at "my_read") (by (first | rfl | decide +kernel | exact shaped_ss (by (first | assumption | decide +kernel)) (by (first | assumption | decide +kernel)) | exact shaped_si (by (first | assumption | decide +kernel)))) (by (first | rfl | decide +kernel | exact shaped_ss (by (first | assumption | decide +kernel)) (by (first | assumption | decide +kernel)) | exact shaped_si (by (first | assumption | decide +kernel)))) (by (((have hcL9 := cLine_is); (try simp only [units_in1, units_deeper, Around.mark_units, units_caller]); (try dsimp only [ktrTop]); first | omega | decide))) ?_); (((try simp only [PyData.eqv, PyData.eqvAll, List.any_cons, List.any_nil, eq_self, beq_self_eq_true, decide_true, Bool.and_true, Bool.true_and, Bool.and_false, Bool.false_and, Bool.or_false, Bool.false_or, Bool.not_true, Bool.not_false, Bool.true_or, Bool.or_true])))))) | walk1 | (dsimp only; walk1) | (leave1; (try dsimp only)) | fail "no step"))
      rw [beq_self_eq_true]
      exact hQ _ _ _ (by k_asm)
    case ke =>
      intro k e g n' h' tk' hk F' U' R' hs'
      have hr : progRes wd ds = .bad k := hk
      rw [hr] at hdue hgood
      obtain ⟨t9, u9, n9, rfl⟩ := hdue
      have hok : PyData.strOk k = true := hgood
      have hm9 := hs' (du, _) (.head _)
      clear C F N hs' hk
      k_dflt (refine' caught_DX (n := Str.ofString "wrong") K0 F' U' R' X9 (topRead_of T) ?kont rfl ?k1 ?k2)
      case k1 => exact rfl
      case k2 => exact rfl
      case kont =>
        intro h' tk dx hs kt t sl vs F' N'
        (try dsimp only)
        (try k_fold)
        (repeat' (first | (k_unfold; (try dsimp only)) | (k_end; kc_close) | with_reducible ((k_here; k_dflt (refine' get_kind ?p1 ?p2 ?p3 ?p4 ?p5 ?_; (case p1 => k_asm); (case p2 => k_asm); (case p3 => k_asm); (case p4 => tm_at "mem"); (case p5 => tm_at "mem")))) | ((with_reducible show wpAny _ _ (exec (Stmt.Try _ _ _ _ _) _) _ _ _); with_reducible ((k_here; refine wpAny_Try_except ?_))) | ((with_reducible show wpAny _ _ (subscriptTail _ _ _ _) _ _ _); first | with_reducible ((k_here; (with_reducible show wpAny _ _ (subscriptTail _ _ (Value.ref _) (Value.int 1 _)) _ _ _); (with_unfolding_all refine' item_tuple (News.isTup ?n ?m) ?h0 ?hf ?hj ?hx ?_ ?hs ?hg; (case n => k_asm); (case m => tm_at "mem"); (case h0 => decide); (case hf => decide); (case hj => exact six1); (case hx => exact tup1); (case hs => with_unfolding_all rfl); (case hg => intro _; with_unfolding_all rfl); k_whole))) | with_reducible ((k_here; (with_reducible show wpAny _ _ (subscriptTail _ _ (Value.ref _) (Value.int 0 _)) _ _ _); (with_unfolding_all refine' item_tuple (News.isTup ?n ?m) ?h0 ?hf ?hj ?hx ?_ ?hs ?hg; (case n => k_asm); (case m => tm_at "mem"); (case h0 => decide); (case hf => decide); (case hj => exact six0); (case hx => exact tup0); (case hs => with_unfolding_all rfl); (case hg => intro _; with_unfolding_all rfl); k_whole)))) | ((with_reducible show wpAny _ _ (call (Value.builtin _) _) _ _ _); first | with_reducible ((k_here; (with_reducible show wpAny _ _ (call (Value.builtin "repr") [Value.ref _]) _ _ _); k_dflt (refine' repr_pair ?p1 ?p2 ?p3 ?p4 ?p5 ?p6 ?p7 ?_; (case p1 => k_asm); (case p2 => k_asm); (case p3 => tm_at "mem"); (case p4 => assumption); (case p5 => assumption); (case p6 => exact rfl); (case p7 => walk_at "my_units")); intro h' u' tk' F' N')) | with_reducible ((k_here; (with_reducible show wpAny _ _ (call (Value.builtin _) [Value.ref _]) _ _ _); k_dflt (refine' len_list (News.isList ?n ?m) ?f ?_; (case n => k_asm); (case m => tm_at "mem"); (case f => first | (simp only [List.size_toArray]; omega) | (simp only [List.size_toArray, List.length_cons, List.length_nil]; omega)); k_whole); (try simp only [List.size_toArray, List.length_cons, List.length_nil])))) | ((with_reducible show wpAny _ _ (call (Value.ref _) _) _ _ _); first | with_reducible ((k_here; (with_reducible show wpAny _ _ (call (Value.ref 231) _) _ _ _); refine hold ?_))) | ((with_reducible show wpAny _ _ (compareOp CmpOp.Eq _ _) _ _ _); first | with_reducible ((k_here; (with_reducible show wpAny _ _ (compareOp CmpOp.Eq (Value.ref _) (Value.ref _)) _ _ _); k_dflt (refine eq_dataH (by walk_at "my_read") (by walk_at "my_read") (by (first | rfl | decide +kernel | exact shaped_ss (by (first | assumption | decide +kernel)) (by (first | assumption | decide +kernel)) | exact shaped_si (by (first | assumption | decide +kernel)))) (by (first | rfl | decide +kernel | exact shaped_ss (by (first | assumption | decide +kernel)) (by (first | assumption | decide +kernel)) | exact shaped_si (by (first | assumption | decide +kernel)))) (by (((have hcL9 := cLine_is); (try simp only [units_in1, units_deeper, Around.mark_units, units_caller]); (try dsimp only [ktrTop]); first | omega | decide))) ?_); (((try simp only [PyData.eqv, PyData.eqvAll, List.any_cons, List.any_nil, eq_self, beq_self_eq_true, decide_true, Bool.and_true, Bool.true_and, Bool.and_false, Bool.false_and, Bool.or_false, Bool.false_or, Bool.not_true, Bool.not_false, Bool.true_or, Bool.or_true])))))) | walk1 | (dsimp only; walk1) | (leave1; (try dsimp only)) | fail "no step"))
        refine name_goesX (by k_asm) (fun h9 v9 F9 => ?_) rfl rfl
        exact hQ _ _ _ F9))) only [↓boxed]
end
section
set_option maxHeartbeats 0
theorem prog_sn {wd : PySem.Str} {ds : List Dv} {mm : Int} (h : (ds.length : Int) = mm) (hc : ¬ (cLo wd ≤ mm ∧ mm ≤ cHi wd)) : progRes wd ds = .bad "SN" := by
  unfold progRes
  rw [if_pos (by rw [cr_lh, h]; exact decide_eq_false hc)]
theorem cr_ok {wd : PySem.Str} {ds : List Dv} {mm : Int} (h : (ds.length : Int) = mm) (h1 : cLo wd ≤ mm) (h2 : mm ≤ cHi wd) : crP wd (ds.length : Int) = true := by
  rw [cr_lh, h]; exact decide_eq_true ⟨h1, h2⟩
theorem prog_num {wd : PySem.Str} {d : Dv} {r : List Dv} (h : crP wd ((d :: r).length : Int) = true) (hn : isNum wd = true) : progRes wd (d :: r) = numRes wd d := by
  unfold progRes
  rw [if_neg (by rw [h]; decide), if_pos hn]
theorem prog_text {wd : PySem.Str} {ds : List Dv} (h : crP wd (ds.length : Int) = true) (hn : isNum wd = false) : progRes wd ds = textRes wd ds := by
  unfold progRes
  rw [if_neg (by rw [h]; decide), if_neg (by rw [hn]; decide)]
theorem law_ifa {w : World} {sco : Scope} {body : List Stmt} {lo : List PySem.Str} {mean : ExcName → Option Value} {mg mb : PySem.Str → Option Value} {h₀ : Heap} {L a : Addr} {ccd : Value} {hp0 : Heap} {gn0 : Array GenState} {dr0 : Drawn} {tk0 : Nat} {os0 : OsState} {Q : Flow → Shared → Prop} {E : Value → Shared → Prop} {m0 : PySem.Str → Option Value} {D tk du st dx rl vd ad n nn kd kb : Nat} {z1 z2 z3 z4 : Int} {t2 t3 t4 t5 t6 t7 t8 tb ub : Tok} {mm : Int} {tm th tl tw : Tok} {wd : PySem.Str} {vs ws : List Value} {ds : List Dv} {keep : List (Addr × Obj)}
  (hsco : sco = scopeAt w.params 386) (hbody : body = (bodyAt w.params 386).drop 7) (K0 : Below callerA h₀ [] h₀) (T : Top viewQ lo mean mg mb h₀) (X : (hd.heap_1 w.params).In h₀)
  (F : Fr h₀ L hp0 m0) (m_row : m0 (Str.ofString "row") = some (.ref tk)) (m_store : m0 (Str.ofString "store") = some (.ref st)) (m_due : m0 (Str.ofString "due") = some (.ref du)) (m_args : m0 (Str.ofString "args") = some (.ref D)) (m_many : m0 (Str.ofString "many") = some (.int mm tm)) (m_most : m0 (Str.ofString "most") = some (.int (cHi wd) th)) (m_least : m0 (Str.ofString "least") = some (.int (cLo wd) tl)) (m_word : m0 (Str.ofString "word") = some (.str wd tw))
  (N : News h₀ L hp0 ((du, tok2 "bad" tb (.str "SN" ub) kb) :: storeL st dx rl vd ad n z1 z2 z3 z4 t2 t3 t4 t5 t6 t7 t8 keep)) (hw : wd ∈ WORDS) (hn1 : 1 ≤ ds.length) (hn4 : ds.length ≤ 4) (hin : ∀ d ∈ ds, d.In) (hA : ArgsAt ds ws) (hdl : (ds.length : Int) = mm)
  (h1 : (tk, listObj vs nn) ∈ keep) (hD : (D, listObj ws kd) ∈ keep) (hT : TokL keep vs (lawToks wd ds)) (hle : vs.length = (lawToks wd ds).length) (hdx : ∀ p ∈ keep, p.1 ≠ dx) (h10 : ∀ p ∈ keep, p.1 ≠ st) (h11 : rl < dx) (h12 : dx < st) (h13 : du ≠ dx) (h14 : du ≠ st)
  (hQ : ∀ h tk m, Fr h₀ L h m → Q (.ret (.bool true)) ⟨h, gn0, dr0, tk, os0⟩) (hc : ¬ (cLo wd ≤ mm ∧ mm ≤ cHi wd)) :
    wpAny (model PySem.Challenge.rw_pq1455_02.row.prog w) (callerA.deeper (envX (Str.ofString "law") sco L a ccd [(Str.ofString "well", L + 1)])) (execs body (envX (Str.ofString "law") sco L a ccd [(Str.ofString "well", L + 1)])) Q E ⟨hp0, gn0, dr0, tk0, os0⟩ := by
  have hp := prog_sn hdl hc
  subst hsco hbody
  have hlim := lim_is
  (rename Frag.In _ _ => X9; revert X9; k_fill; intro X9)
  conv in List.drop _ _ => whnf
  conv in (occs := *) scopeAt _ _ => all_goals whnf
  (repeat' (first | (k_unfold; (try dsimp only)) | (k_end; kc_close) | ((with_reducible show wpAny _ _ (execs (_ :: _) _) _ _ _); with_reducible (((with_reducible show wpAny _ _ (execs (Stmt.Try _ _ _ _ _ :: _) _) _ _ _); refine hold ?_))) | walk1 | (dsimp only; walk1) | (leave1; (try dsimp only)) | fail "no step"))
  all_goals exact law_try (by kernel_rfl) (by kernel_rfl) K0 T X9 (by k_asm) (by (try dsimp only); tm_at "lk") (by (try dsimp only); tm_at "lk") (by (try dsimp only); tm_at "lk") (by k_asm) hw hn1 hn4 hin (due_bad hp) h1 hT hle hdx h10 h11 h12 h13 h14 hQ
theorem law_ifb {w : World} {sco : Scope} {body : List Stmt} {lo : List PySem.Str} {mean : ExcName → Option Value} {mg mb : PySem.Str → Option Value} {h₀ : Heap} {L a : Addr} {ccd : Value} {hp0 : Heap} {gn0 : Array GenState} {dr0 : Drawn} {tk0 : Nat} {os0 : OsState} {Q : Flow → Shared → Prop} {E : Value → Shared → Prop} {m0 : PySem.Str → Option Value} {D tk du st dx rl vd ad n nn kd kb : Nat} {z1 z2 z3 z4 : Int} {t2 t3 t4 t5 t6 t7 t8 tb ub : Tok} {mm : Int} {tm th tl tw : Tok} {wd : PySem.Str} {vs ws : List Value} {ds : List Dv} {keep : List (Addr × Obj)}
  (hsco : sco = scopeAt w.params 386) (hbody : body = (bodyAt w.params 386).drop 7) (K0 : Below callerA h₀ [] h₀) (T : Top viewQ lo mean mg mb h₀) (X : (hd.heap_1 w.params).In h₀)
  (F : Fr h₀ L hp0 m0) (m_row : m0 (Str.ofString "row") = some (.ref tk)) (m_store : m0 (Str.ofString "store") = some (.ref st)) (m_due : m0 (Str.ofString "due") = some (.ref du)) (m_args : m0 (Str.ofString "args") = some (.ref D)) (m_many : m0 (Str.ofString "many") = some (.int mm tm)) (m_most : m0 (Str.ofString "most") = some (.int (cHi wd) th)) (m_least : m0 (Str.ofString "least") = some (.int (cLo wd) tl)) (m_word : m0 (Str.ofString "word") = some (.str wd tw))
  (N : News h₀ L hp0 ((du, tok2 "bad" tb (.str "SN" ub) kb) :: storeL st dx rl vd ad n z1 z2 z3 z4 t2 t3 t4 t5 t6 t7 t8 keep)) (hw : wd ∈ WORDS) (hn1 : 1 ≤ ds.length) (hn4 : ds.length ≤ 4) (hin : ∀ d ∈ ds, d.In) (hA : ArgsAt ds ws) (hdl : (ds.length : Int) = mm)
  (h1 : (tk, listObj vs nn) ∈ keep) (hD : (D, listObj ws kd) ∈ keep) (hT : TokL keep vs (lawToks wd ds)) (hle : vs.length = (lawToks wd ds).length) (hdx : ∀ p ∈ keep, p.1 ≠ dx) (h10 : ∀ p ∈ keep, p.1 ≠ st) (h11 : rl < dx) (h12 : dx < st) (h13 : du ≠ dx) (h14 : du ≠ st)
  (hQ : ∀ h tk m, Fr h₀ L h m → Q (.ret (.bool true)) ⟨h, gn0, dr0, tk, os0⟩) (hc1 : cLo wd ≤ mm) (hc2 : mm ≤ cHi wd) (hnum : isNum wd = true) :
    wpAny (model PySem.Challenge.rw_pq1455_02.row.prog w) (callerA.deeper (envX (Str.ofString "law") sco L a ccd [(Str.ofString "well", L + 1)])) (execs body (envX (Str.ofString "law") sco L a ccd [(Str.ofString "well", L + 1)])) Q E ⟨hp0, gn0, dr0, tk0, os0⟩ := by
  obtain ⟨d1, dr, rfl⟩ : ∃ d r, ds = d :: r := by
    cases ds with
    | nil => simp at hn1
    | cons d r => exact ⟨d, r, rfl⟩
  obtain ⟨w1, wr, rfl, i1, A1⟩ := hA.cons
  have hws := (words_num wd hw hnum).1
  have hni : (wd == Str.ofString "INSTR") = false := by rcases hws with rfl | rfl | rfl | rfl | rfl <;> decide +kernel
  have hokd : d1.Ok := (hin d1 (by simp)).ok
  have hokw := words_okL wd hw
  have hp := prog_num (cr_ok hdl hc1 hc2) hnum
  subst hsco hbody
  have hlim := lim_is
  (rename Frag.In _ _ => X9; revert X9; k_fill; intro X9)
  conv in List.drop _ _ => whnf
  conv in (occs := *) scopeAt _ _ => all_goals whnf
  (repeat' (first | (k_unfold; (try dsimp only)) | (k_end; kc_close) | ((with_reducible show wpAny _ _ (execs (_ :: _) _) _ _ _); with_reducible (((with_reducible show wpAny _ _ (execs (Stmt.Try _ _ _ _ _ :: _) _) _ _ _); refine hold ?_))) | ((with_reducible show wpAny _ _ (call (Value.ref _) _) _ _ _); first | with_reducible ((k_here; (with_reducible show wpAny _ _ (call (Value.ref 362) [Value.str _ _, _]) _ _ _); k_dflt (ktr_call z9 (lnum_all _ _ ?p1 _ _ _ _ ?p2 ?p3); (case p1 => assumption); (case p2 => assumption); (case p3 => assumption)); (((case ke => exact fun _ _ _ _ _ _ hk9 => (show False from hk9).elim); intro v9 n9 h9 tk9 F9 N9 hv9; (unfold RetDue at hv9); obtain ⟨a9, o9, e1, ne9, due9, e2⟩ := hv9; subst e1; replace e2 := e2.symm; subst e2; (try dsimp only); (try k_fold)))))) | ((with_reducible show wpAny _ _ (subscriptTail _ _ _ _) _ _ _); first | with_reducible ((k_here; (with_reducible show wpAny _ _ (subscriptTail _ _ (Value.ref _) (Value.int _ _)) _ _ _); (with_unfolding_all refine' item_list (News.isList ?n ?m) ?h0 ?hf ?hx ?_ ?hs ?hg; (case n => k_asm); (case m => tm_at "mem"); (case h0 => omega); (case hf => omega); (case hx => first | ((simp only [List.getElem?_toArray, Int.toNat_natCast]); assumption) | exact get0 | exact get1 | exact get2 | exact get3); (case hs => with_unfolding_all rfl); (case hg => intro _; with_unfolding_all rfl); k_whole)))) | walk1 | (dsimp only; walk1) | (leave1; (try dsimp only)) | fail "no step"))
  rename DueOf _ _ => due9
  rename (∀ p ∈ _, Prod.fst p ≠ _) => ne9
  exact law_try (by kernel_rfl) (by kernel_rfl) K0 T X9 (by k_asm) (by (try dsimp only); tm_at "lk") (by (try dsimp only); tm_at "lk") (by (try dsimp only); tm_at "lk") (cb_drop (by k_asm) (fun p hp => by rcases List.mem_cons.mp hp with e | hp; exact e ▸ .head _; exact .tail _ (.tail _ (.tail _ (hp))))) hw hn1 hn4 hin (hp ▸ due9) h1 hT hle hdx h10 h11 h12 (fun e => ne9 (dx, _) (.tail _ (.tail _ (.tail _ (.head _)))) e.symm) (fun e => ne9 (st, _) (.tail _ (.tail _ (.head _))) e.symm) hQ
theorem law_ifc {w : World} {sco : Scope} {body : List Stmt} {lo : List PySem.Str} {mean : ExcName → Option Value} {mg mb : PySem.Str → Option Value} {h₀ : Heap} {L a : Addr} {ccd : Value} {hp0 : Heap} {gn0 : Array GenState} {dr0 : Drawn} {tk0 : Nat} {os0 : OsState} {Q : Flow → Shared → Prop} {E : Value → Shared → Prop} {m0 : PySem.Str → Option Value} {D tk du st dx rl vd ad n nn kd kb : Nat} {z1 z2 z3 z4 : Int} {t2 t3 t4 t5 t6 t7 t8 tb ub : Tok} {mm : Int} {tm th tl tw : Tok} {wd : PySem.Str} {vs ws : List Value} {ds : List Dv} {keep : List (Addr × Obj)}
  (hsco : sco = scopeAt w.params 386) (hbody : body = (bodyAt w.params 386).drop 7) (K0 : Below callerA h₀ [] h₀) (T : Top viewQ lo mean mg mb h₀) (X : (hd.heap_1 w.params).In h₀)
  (F : Fr h₀ L hp0 m0) (m_row : m0 (Str.ofString "row") = some (.ref tk)) (m_store : m0 (Str.ofString "store") = some (.ref st)) (m_due : m0 (Str.ofString "due") = some (.ref du)) (m_args : m0 (Str.ofString "args") = some (.ref D)) (m_many : m0 (Str.ofString "many") = some (.int mm tm)) (m_most : m0 (Str.ofString "most") = some (.int (cHi wd) th)) (m_least : m0 (Str.ofString "least") = some (.int (cLo wd) tl)) (m_word : m0 (Str.ofString "word") = some (.str wd tw))
  (N : News h₀ L hp0 ((du, tok2 "bad" tb (.str "SN" ub) kb) :: storeL st dx rl vd ad n z1 z2 z3 z4 t2 t3 t4 t5 t6 t7 t8 keep)) (hw : wd ∈ WORDS) (hn1 : 1 ≤ ds.length) (hn4 : ds.length ≤ 4) (hin : ∀ d ∈ ds, d.In) (hA : ArgsAt ds ws) (hdl : (ds.length : Int) = mm)
  (h1 : (tk, listObj vs nn) ∈ keep) (hD : (D, listObj ws kd) ∈ keep) (hT : TokL keep vs (lawToks wd ds)) (hle : vs.length = (lawToks wd ds).length) (hdx : ∀ p ∈ keep, p.1 ≠ dx) (h10 : ∀ p ∈ keep, p.1 ≠ st) (h11 : rl < dx) (h12 : dx < st) (h13 : du ≠ dx) (h14 : du ≠ st)
  (hQ : ∀ h tk m, Fr h₀ L h m → Q (.ret (.bool true)) ⟨h, gn0, dr0, tk, os0⟩) (hc1 : cLo wd ≤ mm) (hc2 : mm ≤ cHi wd) (hnum : isNum wd = false) (hni : (wd == Str.ofString "INSTR") = false) :
    wpAny (model PySem.Challenge.rw_pq1455_02.row.prog w) (callerA.deeper (envX (Str.ofString "law") sco L a ccd [(Str.ofString "well", L + 1)])) (execs body (envX (Str.ofString "law") sco L a ccd [(Str.ofString "well", L + 1)])) Q E ⟨hp0, gn0, dr0, tk0, os0⟩ := by
  have hws : wd = "LEN" ∨ wd = "VAL" ∨ wd = "ASC" ∨ wd = "LEFT$" ∨ wd = "RIGHT$" ∨ wd = "MID$" := by
    rcases words_text wd hw hnum with h | h | h | h | h | h | h
    · exact .inl h
    · exact .inr (.inl h)
    · exact .inr (.inr (.inl h))
    · exact .inr (.inr (.inr (.inl h)))
    · exact .inr (.inr (.inr (.inr (.inl h))))
    · exact .inr (.inr (.inr (.inr (.inr h))))
    · rw [h] at hni; exact absurd hni (by decide +kernel)
  have hokw := words_okL wd hw
  have hcr := cr_ok hdl hc1 hc2
  have hp := prog_text hcr hnum
  subst hsco hbody
  have hlim := lim_is
  (rename Frag.In _ _ => X9; revert X9; k_fill; intro X9)
  conv in List.drop _ _ => whnf
  conv in (occs := *) scopeAt _ _ => all_goals whnf
  (repeat' (first | (k_unfold; (try dsimp only)) | (k_end; kc_close) | ((with_reducible show wpAny _ _ (execs (_ :: _) _) _ _ _); with_reducible (((with_reducible show wpAny _ _ (execs (Stmt.Try _ _ _ _ _ :: _) _) _ _ _); refine hold ?_))) | ((with_reducible show wpAny _ _ (call (Value.ref _) _) _ _ _); first | with_reducible ((k_here; (with_reducible show wpAny _ _ (call (Value.ref 381) [Value.str _ _, Value.ref _]) _ _ _); k_dflt (ktr_call z9 (ltext_all _ _ ?p1 _ ?p2 ?p3 _ ?p4 _ _ _ _ ?p5); (case p1 => assumption); (case p2 => assumption); (case p3 => assumption); (case p4 => assumption); (case p5 => tm_at "mem")); (((case ke => exact fun _ _ _ _ _ _ hk9 => (show False from hk9).elim); intro v9 n9 h9 tk9 F9 N9 hv9; (unfold RetDue at hv9); obtain ⟨a9, o9, e1, ne9, due9, e2⟩ := hv9; subst e1; replace e2 := e2.symm; subst e2; (try dsimp only); (try k_fold)))))) | walk1 | (dsimp only; walk1) | (leave1; (try dsimp only)) | fail "no step"))
  rename DueOf _ _ => due9
  rename (∀ p ∈ _, Prod.fst p ≠ _) => ne9
  exact law_try (by kernel_rfl) (by kernel_rfl) K0 T X9 (by k_asm) (by (try dsimp only); tm_at "lk") (by (try dsimp only); tm_at "lk") (by (try dsimp only); tm_at "lk") (cb_drop (by k_asm) (fun p hp => by rcases List.mem_cons.mp hp with e | hp; exact e ▸ .head _; exact .tail _ (.tail _ (.tail _ (hp))))) hw hn1 hn4 hin (hp ▸ due9) h1 hT hle hdx h10 h11 h12 (fun e => ne9 (dx, _) (.tail _ (.tail _ (.tail _ (.head _)))) e.symm) (fun e => ne9 (st, _) (.tail _ (.tail _ (.head _))) e.symm) hQ
theorem law_ifd {w : World} {sco : Scope} {body : List Stmt} {lo : List PySem.Str} {mean : ExcName → Option Value} {mg mb : PySem.Str → Option Value} {h₀ : Heap} {L a : Addr} {ccd : Value} {hp0 : Heap} {gn0 : Array GenState} {dr0 : Drawn} {tk0 : Nat} {os0 : OsState} {Q : Flow → Shared → Prop} {E : Value → Shared → Prop} {m0 : PySem.Str → Option Value} {D tk du st dx rl vd ad n nn kd kb : Nat} {z1 z2 z3 z4 : Int} {t2 t3 t4 t5 t6 t7 t8 tb ub : Tok} {mm : Int} {tm th tl tw : Tok} {wd : PySem.Str} {vs ws : List Value} {ds : List Dv} {keep : List (Addr × Obj)}
  (hsco : sco = scopeAt w.params 386) (hbody : body = (bodyAt w.params 386).drop 7) (K0 : Below callerA h₀ [] h₀) (T : Top viewQ lo mean mg mb h₀) (X : (hd.heap_1 w.params).In h₀)
  (F : Fr h₀ L hp0 m0) (m_row : m0 (Str.ofString "row") = some (.ref tk)) (m_store : m0 (Str.ofString "store") = some (.ref st)) (m_due : m0 (Str.ofString "due") = some (.ref du)) (m_args : m0 (Str.ofString "args") = some (.ref D)) (m_many : m0 (Str.ofString "many") = some (.int mm tm)) (m_most : m0 (Str.ofString "most") = some (.int (cHi wd) th)) (m_least : m0 (Str.ofString "least") = some (.int (cLo wd) tl)) (m_word : m0 (Str.ofString "word") = some (.str wd tw))
  (N : News h₀ L hp0 ((du, tok2 "bad" tb (.str "SN" ub) kb) :: storeL st dx rl vd ad n z1 z2 z3 z4 t2 t3 t4 t5 t6 t7 t8 keep)) (hw : wd ∈ WORDS) (hn1 : 1 ≤ ds.length) (hn4 : ds.length ≤ 4) (hin : ∀ d ∈ ds, d.In) (hA : ArgsAt ds ws) (hdl : (ds.length : Int) = mm)
  (h1 : (tk, listObj vs nn) ∈ keep) (hD : (D, listObj ws kd) ∈ keep) (hT : TokL keep vs (lawToks wd ds)) (hle : vs.length = (lawToks wd ds).length) (hdx : ∀ p ∈ keep, p.1 ≠ dx) (h10 : ∀ p ∈ keep, p.1 ≠ st) (h11 : rl < dx) (h12 : dx < st) (h13 : du ≠ dx) (h14 : du ≠ st)
  (hQ : ∀ h tk m, Fr h₀ L h m → Q (.ret (.bool true)) ⟨h, gn0, dr0, tk, os0⟩) (hc1 : cLo wd ≤ mm) (hc2 : mm ≤ cHi wd) (hwd : wd = "INSTR") :
    wpAny (model PySem.Challenge.rw_pq1455_02.row.prog w) (callerA.deeper (envX (Str.ofString "law") sco L a ccd [(Str.ofString "well", L + 1)])) (execs body (envX (Str.ofString "law") sco L a ccd [(Str.ofString "well", L + 1)])) Q E ⟨hp0, gn0, dr0, tk0, os0⟩ := by
  subst hwd
  have hcr := cr_ok hdl hc1 hc2
  have hmany := many_of hcr (by decide +kernel) (by decide +kernel)
  have hp := (prog_text hcr (by decide +kernel)).trans (textRes_ins ds)
  subst hsco hbody
  have hlim := lim_is
  (rename Frag.In _ _ => X9; revert X9; k_fill; intro X9)
  conv in List.drop _ _ => whnf
  conv in (occs := *) scopeAt _ _ => all_goals whnf
  (repeat' (first | (k_unfold; (try dsimp only)) | (k_end; kc_close) | ((with_reducible show wpAny _ _ (execs (_ :: _) _) _ _ _); with_reducible (((with_reducible show wpAny _ _ (execs (Stmt.Try _ _ _ _ _ :: _) _) _ _ _); refine hold ?_))) | ((with_reducible show wpAny _ _ (isTrue _ _ _) _ _ _); with_reducible ((k_here; (first | with_reducible refine' isEqS (b := true) ?F ?e ?v ?b ?_ ?k ?x ?d | with_reducible refine' isNeS (b := true) ?F ?e ?v ?b ?_ ?k ?x ?d); k_dflt (tm_at "c1"; (case b => decide +kernel); tm_at "c2")))) | ((with_reducible show wpAny _ _ (call (Value.ref _) _) _ _ _); first | with_reducible ((k_here; (with_reducible show wpAny _ _ (call (Value.ref 376) [Value.ref _]) _ _ _); k_dflt (ktr_call z9 (lins_all _ _ ?p1 ?p3 _ ?p4 (0 : Nat) _ _ _ ?p5); (case p1 => assumption); (case p3 => assumption); (case p4 => assumption); (case p5 => tm_at "mem")); (((case ke => exact fun _ _ _ _ _ _ hk9 => (show False from hk9).elim); intro v9 n9 h9 tk9 F9 N9 hv9; (unfold RetDue at hv9); obtain ⟨a9, o9, e1, ne9, due9, e2⟩ := hv9; subst e1; replace e2 := e2.symm; subst e2; (try dsimp only); (try k_fold))))) | with_reducible ((k_here; (with_reducible show wpAny _ _ (call (Value.ref 381) [Value.str _ _, Value.ref _]) _ _ _); k_dflt (ktr_call z9 (lany _ _ ?p1 ?p3 _ ?p4 _ _ _ _ ?p5); (case p1 => assumption); (case p3 => assumption); (case p4 => assumption); (case p5 => tm_at "mem")); (((case ke => exact fun _ _ _ _ _ _ hk9 => (show False from hk9).elim); intro v9 n9 h9 tk9 F9 N9 hv9; (unfold RetAny RetDue at hv9); obtain ⟨r9, a9, o9, e1, ne9, due9, e2⟩ := hv9; subst e1; replace e2 := e2.symm; subst e2; (try dsimp only); (try k_fold)))))) | walk1 | (dsimp only; walk1) | (leave1; (try dsimp only)) | fail "no step"))
  rename DueOf _ _ => due9
  rename (∀ p ∈ _, Prod.fst p ≠ _) => ne9
  exact law_try (by kernel_rfl) (by kernel_rfl) K0 T X9 (by k_asm) (by (try dsimp only); tm_at "lk") (by (try dsimp only); tm_at "lk") (by (try dsimp only); tm_at "lk") (cb_drop (by k_asm) (fun p hp => by rcases List.mem_cons.mp hp with e | hp; exact e ▸ .head _; exact .tail _ (.tail _ (.tail _ (.tail _ (hp)))))) hw hn1 hn4 hin (hp ▸ due9) h1 hT hle hdx h10 h11 h12 (fun e => ne9 (dx, _) (.tail _ (.tail _ (.tail _ (.tail _ (.head _))))) e.symm) (fun e => ne9 (st, _) (.tail _ (.tail _ (.tail _ (.head _)))) e.symm) hQ
theorem law_if {w : World} {sco : Scope} {body : List Stmt} {lo : List PySem.Str} {mean : ExcName → Option Value} {mg mb : PySem.Str → Option Value} {h₀ : Heap} {L a : Addr} {ccd : Value} {hp0 : Heap} {gn0 : Array GenState} {dr0 : Drawn} {tk0 : Nat} {os0 : OsState} {Q : Flow → Shared → Prop} {E : Value → Shared → Prop} {m0 : PySem.Str → Option Value} {D tk du st dx rl vd ad n nn kd kb : Nat} {z1 z2 z3 z4 : Int} {t2 t3 t4 t5 t6 t7 t8 tb ub : Tok} {mm : Int} {tm th tl tw : Tok} {wd : PySem.Str} {vs ws : List Value} {ds : List Dv} {keep : List (Addr × Obj)}
  (hsco : sco = scopeAt w.params 386) (hbody : body = (bodyAt w.params 386).drop 7) (K0 : Below callerA h₀ [] h₀) (T : Top viewQ lo mean mg mb h₀) (X : (hd.heap_1 w.params).In h₀)
  (F : Fr h₀ L hp0 m0) (m_row : m0 (Str.ofString "row") = some (.ref tk)) (m_store : m0 (Str.ofString "store") = some (.ref st)) (m_due : m0 (Str.ofString "due") = some (.ref du)) (m_args : m0 (Str.ofString "args") = some (.ref D)) (m_many : m0 (Str.ofString "many") = some (.int mm tm)) (m_most : m0 (Str.ofString "most") = some (.int (cHi wd) th)) (m_least : m0 (Str.ofString "least") = some (.int (cLo wd) tl)) (m_word : m0 (Str.ofString "word") = some (.str wd tw))
  (N : News h₀ L hp0 ((du, tok2 "bad" tb (.str "SN" ub) kb) :: storeL st dx rl vd ad n z1 z2 z3 z4 t2 t3 t4 t5 t6 t7 t8 keep)) (hw : wd ∈ WORDS) (hn1 : 1 ≤ ds.length) (hn4 : ds.length ≤ 4) (hin : ∀ d ∈ ds, d.In) (hA : ArgsAt ds ws) (hdl : (ds.length : Int) = mm)
  (h1 : (tk, listObj vs nn) ∈ keep) (hD : (D, listObj ws kd) ∈ keep) (hT : TokL keep vs (lawToks wd ds)) (hle : vs.length = (lawToks wd ds).length) (hdx : ∀ p ∈ keep, p.1 ≠ dx) (h10 : ∀ p ∈ keep, p.1 ≠ st) (h11 : rl < dx) (h12 : dx < st) (h13 : du ≠ dx) (h14 : du ≠ st)
  (hQ : ∀ h tk m, Fr h₀ L h m → Q (.ret (.bool true)) ⟨h, gn0, dr0, tk, os0⟩)  :
    wpAny (model PySem.Challenge.rw_pq1455_02.row.prog w) (callerA.deeper (envX (Str.ofString "law") sco L a ccd [(Str.ofString "well", L + 1)])) (execs body (envX (Str.ofString "law") sco L a ccd [(Str.ofString "well", L + 1)])) Q E ⟨hp0, gn0, dr0, tk0, os0⟩ := by
  by_cases hc : cLo wd ≤ mm ∧ mm ≤ cHi wd
  · by_cases hnum : isNum wd = true
    · exact law_ifb hsco hbody K0 T X F m_row m_store m_due m_args m_many m_most m_least m_word N hw hn1 hn4 hin hA hdl h1 hD hT hle hdx h10 h11 h12 h13 h14 hQ hc.1 hc.2 hnum
    · by_cases hi : wd = "INSTR"
      · exact law_ifd hsco hbody K0 T X F m_row m_store m_due m_args m_many m_most m_least m_word N hw hn1 hn4 hin hA hdl h1 hD hT hle hdx h10 h11 h12 h13 h14 hQ hc.1 hc.2 hi
      · exact law_ifc hsco hbody K0 T X F m_row m_store m_due m_args m_many m_most m_least m_word N hw hn1 hn4 hin hA hdl h1 hD hT hle hdx h10 h11 h12 h13 h14 hQ hc.1 hc.2 (Bool.eq_false_iff.mpr hnum) (by simpa using hi)
  · exact law_ifa hsco hbody K0 T X F m_row m_store m_due m_args m_many m_most m_least m_word N hw hn1 hn4 hin hA hdl h1 hD hT hle hdx h10 h11 h12 h13 h14 hQ hc
end
section
theorem sub_cons {α : Type} {a : α} {l r : List α} (h : a ∈ l) (t : ∀ p ∈ r, p ∈ l) : ∀ p ∈ a :: r, p ∈ l := fun p hp => (List.mem_cons.mp hp).elim (fun e => e ▸ h) (t p)
set_option maxHeartbeats 0
theorem law_row {w : World} {sco : Scope} {body : List Stmt} {lo : List PySem.Str} {mean : ExcName → Option Value} {mg mb : PySem.Str → Option Value} {h₀ : Heap} {L a : Addr} {ccd : Value} {hp0 : Heap} {gn0 : Array GenState} {dr0 : Drawn} {tk0 : Nat} {os0 : OsState} {Q : Flow → Shared → Prop} {E : Value → Shared → Prop} {m0 : PySem.Str → Option Value} {D : Nat} {mm : Int} {tm th tl tw : Tok} {n : Nat} {wd : PySem.Str} {ws : List Value} {ds : List Dv}
  (hsco : sco = scopeAt w.params 386) (hbody : body = (bodyAt w.params 386).drop 6) (K0 : Below callerA h₀ [] h₀) (T : Top viewQ lo mean mg mb h₀) (X : (hd.heap_1 w.params).In h₀)
  (F : Fr h₀ L hp0 m0) (m_args : m0 (Str.ofString "args") = some (.ref D)) (m_many : m0 (Str.ofString "many") = some (.int mm tm)) (m_most : m0 (Str.ofString "most") = some (.int (cHi wd) th)) (m_least : m0 (Str.ofString "least") = some (.int (cLo wd) tl)) (m_word : m0 (Str.ofString "word") = some (.str wd tw))
  (N : News h₀ L hp0 [(D, listObj ws n)]) (hw : wd ∈ WORDS) (hm1 : 1 ≤ mm) (hm4 : mm ≤ 4) (hA : ArgsAt ds ws) (hin : ∀ d ∈ ds, d.In) (hdl : (ds.length : Int) = mm)
  (hQ : ∀ h tk m, Fr h₀ L h m → Q (.ret (.bool true)) ⟨h, gn0, dr0, tk, os0⟩) :
    wpAny (model PySem.Challenge.rw_pq1455_02.row.prog w) (callerA.deeper (envX (Str.ofString "law") sco L a ccd [(Str.ofString "well", L + 1)])) (execs body (envX (Str.ofString "law") sco L a ccd [(Str.ofString "well", L + 1)])) Q E ⟨hp0, gn0, dr0, tk0, os0⟩ := by
  refine Box.out ?_
  simp (disch :=
    k_dflt ((
    refine keepP ?_
    subst hsco hbody
    have hlim := lim_is
    (rename Frag.In _ _ => X9; revert X9; k_fill; intro X9)
    conv in List.drop _ _ => whnf
    conv in (occs := *) scopeAt _ _ => all_goals whnf
    have hn1 : 1 ≤ ds.length := by omega
    have hn4 : ds.length ≤ 4 := by omega
    (repeat' (first | (k_unfold; (try dsimp only)) | (k_end; kc_close) | ((with_reducible show wpAny _ _ (execs (_ :: _) _) _ _ _); with_reducible (((with_reducible show wpAny _ _ (execs (Stmt.If _ _ _ _ :: _) _) _ _ _); refine hold ?_))) | ((with_reducible show wpAny _ _ (call (Value.ref _) _) _ _ _); first | with_reducible ((k_here; (with_reducible show wpAny _ _ (call (Value.ref 348) [Value.str _ _, Value.ref _]) _ _ _); k_dflt (ktr_call z9 (tokens_ _ _ _ _ ?p1 ?p2 ?p3 ?p4 _ _ _ _ ?p5); (case p1 => with_reducible assumption); (case p2 => assumption); (case p3 => assumption); (case p4 => exact fun d hd => Dv.In.ok ((by assumption : ∀ d ∈ _, Dv.In d) d hd)); (case p5 => tm_at "mem")); (((case ke => exact fun _ _ _ _ _ _ hk9 => (show False from hk9).elim); intro v9 n9 h9 tk9 F9 N9 hv9; (unfold RetTok at hv9); obtain ⟨a9, vs9, k9, m9, e1, e2, sub9, tok9, len9⟩ := hv9; subst e1; subst e2; (try dsimp only); (try k_fold)))))) | walk1 | (dsimp only; walk1) | (leave1; (try dsimp only)) | fail "no step"))
    unfold Hold
    rename TokL _ _ _ => tok9
    rename ∀ (p : Addr × Obj), p ∈ [_] → p ∈ _ => sub9
    refine law_if (by kernel_rfl) (by kernel_rfl) K0 T X9 (by k_asm) (by (try dsimp only); tm_at "lk") (by (try dsimp only); tm_at "lk") (by (try dsimp only); tm_at "lk") (by (try dsimp only); tm_at "lk") (by (try dsimp only); tm_at "lk") (by (try dsimp only); tm_at "lk") (by (try dsimp only); tm_at "lk") (by (try dsimp only); tm_at "lk") (cb_drop (by k_asm) (sub_cons (.tail _ (.head _)) (sub_cons (.tail _ (.tail _ (.tail _ (.tail _ (.head _))))) (sub_cons (.tail _ (.tail _ (.tail _ (.tail _ (.tail _ (.head _)))))) (sub_cons (.tail _ (.tail _ (.tail _ (.tail _ (.tail _ (.tail _ (.head _))))))) (fun p hp => .tail _ (.tail _ (.tail _ (.tail _ (.tail _ (.tail _ (.tail _ hp)))))))))))) hw hn1 hn4 hin hA hdl (.head _) (.tail _ (sub9 _ (.head _))) (tok9.mono fun p hp => .tail _ hp) ?hle ?hdx ?h10 ?h11 ?h12 ?h13 ?h14 hQ
    case hle => assumption
    case hdx => refine fun p hp => Nat.ne_of_lt (allLt_mem _ ?_ p hp); walk_at "my_allLt"
    case h10 =>
      rename @LT.lt Nat _ _ _ => l9
      refine fun p hp => Nat.ne_of_lt (Nat.lt_trans ?_ l9)
      refine allLt_mem _ ?_ p hp
      walk_at "my_allLt"
    case h11 => omega
    case h12 => omega
    case h13 => omega
    case h14 => omega))) only [↓boxed]
end
section
local macro_rules | `(tactic| walk_at "CompSrc") => `(tactic| (refine hold ?_))
local macro_rules | `(tactic| walk_at "my_retA") => `(tactic| ((case ke => exact fun _ _ _ _ _ _ hk9 => (show False from hk9).elim); intro v9 n9 h9 tk9 F9 N9 hv9; obtain ⟨in9, t9, e2⟩ := hv9; replace e2 := e2.symm; subst e2; (try simp only [List.cons_append, List.nil_append] at N9); (try dsimp only); (try k_fold)))
local macro_rules | `(tactic| walk_at "call ref") => `(tactic| (k_here; (with_reducible show wpAny _ _ (call (Value.ref 336) _) _ _ _); refine hold ?_))
local macro_rules | `(tactic| walk_at "execs cons Assign cons") => `(tactic| ((with_reducible show wpAny _ _ (execs (Stmt.Assign _ (Expr.Tuple _ _ _) _ :: _) _) _ _ _); refine hold ?_))
local macro_rules | `(tactic| k_ne) => `(tactic| (dsimp only; first | with_reducible assumption | exact Ne.symm (by with_reducible assumption)))
local macro_rules | `(tactic| k_ne) => `(tactic| first | with_reducible assumption | exact Ne.symm (by with_reducible assumption))
set_option maxHeartbeats 0
theorem law_args {w : World} {sco : Scope} {body : List Stmt} {lo : List PySem.Str} {mean : ExcName → Option Value} {mg mb : PySem.Str → Option Value} {h₀ : Heap} {L a : Addr} {ccd : Value} {hp0 : Heap} {gn0 : Array GenState} {dr0 : Drawn} {tk0 : Nat} {os0 : OsState} {Q : Flow → Shared → Prop} {E : Value → Shared → Prop} {m0 : PySem.Str → Option Value} {o : Obj} {ys : List Value} {wl c : Addr} {k mm : Int} {t tm th tl tw : Tok} {n n2 : Nat} {wd : PySem.Str}
  (hsco : sco = scopeAt w.params 386) (hbody : body = (bodyAt w.params 386).drop 5) (K0 : Below callerA h₀ [] h₀) (T : Top viewQ lo mean mg mb h₀) (X : (hd.heap_1 w.params).In h₀)
  (F : Fr h₀ L hp0 m0) (m_many : m0 (Str.ofString "many") = some (.int mm tm)) (m_most : m0 (Str.ofString "most") = some (.int (cHi wd) th)) (m_least : m0 (Str.ofString "least") = some (.int (cLo wd) tl)) (m_word : m0 (Str.ofString "word") = some (.str wd tw))
  (N : News h₀ L hp0 [(wl, wellO c k t n), (c, listObj ys n2), (L + 1, o)]) (d' : o.data = .cell (some (.ref wl)))
  (hys : AllInts ys) (hlen : ys.length ≤ 1000) (hk1 : -1 ≤ k) (hk2 : k ≤ 80) (h1 : @LT.lt Nat _ c wl) (h2 : @LT.lt Nat _ (L + 1) wl) (hw : wd ∈ WORDS) (hm1 : 1 ≤ mm) (hm4 : mm ≤ 4)
  (hQ : ∀ h tk m, Fr h₀ L h m → Q (.ret (.bool true)) ⟨h, gn0, dr0, tk, os0⟩) :
    wpAny (model PySem.Challenge.rw_pq1455_02.row.prog w) (callerA.deeper (envX (Str.ofString "law") sco L a ccd [(Str.ofString "well", L + 1)])) (execs body (envX (Str.ofString "law") sco L a ccd [(Str.ofString "well", L + 1)])) Q E ⟨hp0, gn0, dr0, tk0, os0⟩ := by
  refine Box.out ?_
  simp (disch :=
    k_dflt ((
    refine keepP ?_
    subst hsco hbody
    have hlim := lim_is
    (rename Frag.In _ _ => X9; revert X9; k_fill; intro X9)
    conv in List.drop _ _ => whnf
    conv in (occs := *) scopeAt _ _ => all_goals whnf
    k_steps
    unfold Hold
    rename_i h9 tk9 F9 av vsv kv lt9 len9 all9 N9
    refine LCg.CompSrc.ledger (by rfl) F9 N9 List.mem_cons_self (by rw [List.size_toArray, len9]; have : sizeLine = 2 ^ 24 := rfl; omega) ?_
    intro g'
    rw [show vsv.toArray.size = mm.toNat by rw [List.size_toArray, len9]]
    refine comp_ind (n := mm.toNat) (fun i ys' news' => ys'.length = i ∧ (∀ v ∈ ys', IsIn v) ∧ ∃ t', news' = [(av, listObj vsv kv), (wl, wellO c (k + 2 * (i : Int)) t' n), (c, listObj ys n2), (L + 1, o)]) ?_ ?_ mm.toNat 0 [] _ (by omega) ⟨rfl, all_nil, t, by simp⟩
    · intro i ys' news' hi hJ v I oI C oC D m₂ h tk E' hP hC hx F N off ne
      obtain ⟨hl, hin, t', rfl⟩ := hJ
      obtain ⟨b, rfl⟩ := all9 v (by obtain ⟨q, e⟩ := List.getElem?_eq_some_iff.mp (by simpa using hP); exact e ▸ List.getElem_mem q)
      have hk1' : -1 ≤ k + 2 * (i : Int) := by omega
      have hk2' : k + 2 * (i : Int) ≤ 90 := by omega
      clear hk1 hk2 hQ
      have off' := off
      obtain ⟨⟨a1, a2, a3⟩, ⟨b1, b2, b3⟩, ⟨c1, c2, c3⟩, ⟨d1, d2, d3⟩, _⟩ := off'
      obtain ⟨e1, e2, e3⟩ := ne
      have q1 : @Ne Nat wl av := lt9 (wl, wellO c k t n) (.head _)
      have q2 : @Ne Nat c av := lt9 (c, listObj ys n2) (.tail _ (.head _))
      have q3 : @Ne Nat (L + 1) av := lt9 (L + 1, o) (.tail _ (.tail _ (.head _)))
      dsimp only at a1 a2 a3 b1 b2 b3 c1 c2 c3 d1 d2 d3
      k_steps
      unfold Hold
      k_dflt (refine' Tel.use (arg4 _ _ _ _ _ _ _ _ _ _ _ _ _ ?p1 ?p2 ?p3 ?p4 ?p5 ?p6 ?p7 _) ?k1 ?k2 ?k3 ?k4 ?k5 ?k6 ?k7 ?k8 ?kr ?ke)
      case k1 => k_asm
      case k2 => k_asm
      case k3 => k_asm
      case k4 => k_asm
      case k5 => k_asm
      case k6 => first | exact rfl | assumption
      case k7 => walk_at "my_room"
      case k8 => walk_at "my_units"
      case p1 => tm_at "mem"
      case p2 => assumption
      case p3 => assumption
      case p4 => assumption
      case p5 => assumption
      case p6 => k_all
      case p7 => k_all
      walk_at "my_retA"
      rename_i v9 h9' tk9' F9' in9 t9 N9'
      rw [show k + 2 * (i : Int) + 2 = k + 2 * ((i + 1 : Nat) : Int) by omega] at N9'
      exact LCg.CompEnd.intro F9' N9' _ (fun _ h => h) off (Or.inr ⟨_, .head _, rfl, _, rfl⟩) ⟨by simp [hl], fun v hv => (List.mem_append.mp hv).elim (hin v) fun e => by rw [List.mem_singleton.mp e]; exact in9, t9, rfl⟩
    · intro ys' news' hJ
      obtain ⟨hl, hin, t', rfl⟩ := hJ
      k_steps
      unfold Hold
      obtain ⟨ds, hA, hin'⟩ := args_of hin
      have hdl : (ds.length : Int) = mm := by have := hA.1; omega
      exact law_row (by kernel_rfl) (by kernel_rfl) K0 T X9 (by k_asm) (by (try dsimp only); tm_at "lk") (by (try dsimp only); tm_at "lk") (by (try dsimp only); tm_at "lk") (by (try dsimp only); tm_at "lk") (by (try dsimp only); tm_at "lk") (cb_drop (by k_asm) (sub_cons (.head _) (fun p hp => by cases hp))) hw hm1 hm4 hA hin' hdl hQ))) only [↓boxed]
end
section
theorem many_bounds {lo hi x : Int} (h0 : 0 ≤ x) (h8 : x < 8) (hb : 1 ≤ lo ∧ lo ≤ hi ∧ hi ≤ 3) :
    1 ≤ (if 1 > [lo, hi, lo, hi, hi, lo, lo - 1, hi + 1].getD x.toNat 0 then 1 else [lo, hi, lo, hi, hi, lo, lo - 1, hi + 1].getD x.toNat 0) ∧ (if 1 > [lo, hi, lo, hi, hi, lo, lo - 1, hi + 1].getD x.toNat 0 then 1 else [lo, hi, lo, hi, hi, lo, lo - 1, hi + 1].getD x.toNat 0) ≤ 4 := by
  obtain ⟨b1, b2, b3⟩ := hb
  have key : ∀ g : Int, g ≤ 4 → 1 ≤ (if 1 > g then 1 else g) ∧ (if 1 > g then 1 else g) ≤ 4 := fun g hg => by split <;> omega
  refine key _ ?_
  rcases (show x = 0 ∨ x = 1 ∨ x = 2 ∨ x = 3 ∨ x = 4 ∨ x = 5 ∨ x = 6 ∨ x = 7 by omega) with rfl | rfl | rfl | rfl | rfl | rfl | rfl | rfl
  · show lo ≤ 4; omega
  · show hi ≤ 4; omega
  · show lo ≤ 4; omega
  · show hi ≤ 4; omega
  · show hi ≤ 4; omega
  · show lo ≤ 4; omega
  · show lo - 1 ≤ 4; omega
  · show hi + 1 ≤ 4; omega
set_option maxHeartbeats 0
theorem law_body {w : World} {sco : Scope} {body : List Stmt} {lo : List PySem.Str} {mean : ExcName → Option Value} {mg mb : PySem.Str → Option Value} {h₀ : Heap} {L sc a : Addr} {ccd : Value} {hp0 : Heap} {gn0 : Array GenState} {dr0 : Drawn} {tk0 : Nat} {os0 : OsState} {Q : Flow → Shared → Prop} {E : Value → Shared → Prop} {o : Obj} {vs : List Value} {ns : List Int}
  (hsco : sco = scopeAt w.params 386) (hbody : body = bodyAt w.params 386) (K0 : Below callerA h₀ [] h₀) (T : Top viewQ lo mean mg mb h₀) (X : (hd.heap_1 w.params).In h₀) (hL : h₀.IsList sc vs.toArray) (hI : IntsAre vs ns) (hlen : ns.length ≤ 63)
  (F : Fr h₀ L hp0 (fun y => if y = Str.ofString "script" then some (.ref sc) else none)) (N : News h₀ L hp0 [(L + 1, o)]) (ho : o.data = .cell none)
  (hQ : ∀ h tk m, Fr h₀ L h m → Q (.ret (.bool true)) ⟨h, gn0, dr0, tk, os0⟩) :
    wpAny (model PySem.Challenge.rw_pq1455_02.row.prog w) (callerA.deeper (envX (Str.ofString "law") sco L a ccd [(Str.ofString "well", L + 1)])) (execs body (envX (Str.ofString "law") sco L a ccd [(Str.ofString "well", L + 1)])) Q E ⟨hp0, gn0, dr0, tk0, os0⟩ := by
  refine Box.out ?_
  simp (disch :=
    k_dflt ((
    refine keepP ?_
    subst hsco hbody
    have hlim := lim_is
    (rename Frag.In _ _ => X9; revert X9; k_fill; intro X9)
    conv in bodyAt _ _ => whnf
    conv in (occs := *) scopeAt _ _ => all_goals whnf
    (repeat' (first | (k_unfold; (try dsimp only)) | (k_end; kc_close) | ((with_reducible show wpAny _ _ (execs (_ :: _) _) _ _ _); with_reducible (((with_reducible show wpAny _ _ (execs (Stmt.Assign _ (Expr.ListComp (Expr.Call _ [Expr.Name _ _, Expr.Name _ _] _ _) _ _ _) _ :: _) _) _ _ _); refine hold ?_))) | ((refine LCg.CompEnd.intro (by assumption) (by assumption) _ (fun _ h9 => h9) (by walk_at "my_off") (by walk_at "my_csrc") ?_)) | ((with_reducible show wpAny _ _ (call (Value.ref _) _) _ _ _); first | with_reducible ((k_here; (with_reducible show wpAny _ _ (call (Value.ref 322) [Value.ref _, Value.int 8 _]) _ _ _); k_dflt (ktr_call z9 (dip3 _ _ _ _ _ _ _ _ _ _ _ _ _ ?p1 ?p2 ?p3 ?p4 ?p5 ?p6 ?p9 _ ?p7 ?p8); (case p1 => tm_at "mem"); (case p2 => (first | with_reducible assumption | exact allInts_of (by with_reducible assumption))); (case p3 => (first | with_reducible assumption | exact Ne.symm (by with_reducible assumption) | omega)); (case p4 => omega); (case p5 => omega); (case p6 => k_all); (case p9 => k_all); (case p7 => decide); (case p8 => decide)); (((case ke => exact fun _ _ _ _ _ _ hk9 => (show False from hk9).elim); intro v9 n9 h9 tk9 F9 N9 hv9; (dsimp only [RetDip, RetDipP] at hv9); obtain ⟨x9, t9, t9', e1, lo9, hi9, e2⟩ := hv9; subst e1; replace e2 := e2.symm; subst e2; (try simp only [List.cons_append, List.nil_append] at N9); (try dsimp only); (try k_fold))))) | with_reducible ((k_here; (with_reducible show wpAny _ _ (call (Value.ref 329) [Value.str _ _]) _ _ _); k_dflt (ktr_call z9 (count_of _ _ ?p1 _ _); (case p1 => exact words_okL _ (by with_reducible assumption))); (((case ke => exact fun _ _ _ _ _ _ hk9 => (show False from hk9).elim); intro v9 n9 h9 tk9 F9 N9 hv9; (have hb9 := two_bounds hv9); (unfold RetTwo at hv9); obtain ⟨a9, t9, u9, k9, e1, lt9, e2⟩ := hv9; subst e1; replace e2 := e2.symm; subst e2; (try k_lt lt9); (try dsimp only); (try k_fold))))) | with_reducible ((k_here; k_dflt ((show wpAny _ _ (call (Value.ref 301) []) _ _ _); (have hlen9 := len20 (by with_reducible assumption)); (have hcs9 := allInts_of (by with_reducible assumption : IntsAre _ (List.map _ (List.take 20 _)))); ktr_call z9 (l_funs _ _)); (((case ke => exact fun _ _ _ _ _ _ hk9 => (show False from hk9).elim); intro v9 n9 h9 tk9 F9 N9 hv9; (unfold RetL at hv9); obtain ⟨a9, vs9, k9, e1, lt9, len9, all9, e2⟩ := hv9; subst e1; replace e2 := e2.symm; subst e2; (try k_lt lt9); (try dsimp only); (try k_fold))))) | with_reducible ((k_here; (with_reducible show wpAny _ _ (call (Value.ref 322) [Value.ref _, Value.int 12 _]) _ _ _); k_dflt (ktr_call z9 (dip1 _ _ _ _ _ _ _ _ _ _ _ ?p1 ?p2 ?p3 ?p4 ?p5 ?p6 ?p9 _ ?p7 ?p8); (case p1 => tm_at "mem"); (case p2 => (first | with_reducible assumption | exact allInts_of (by with_reducible assumption))); (case p3 => (first | with_reducible assumption | exact Ne.symm (by with_reducible assumption) | omega)); (case p4 => omega); (case p5 => omega); (case p6 => k_all); (case p9 => k_ne); (case p7 => decide); (case p8 => decide)); (((case ke => exact fun _ _ _ _ _ _ hk9 => (show False from hk9).elim); intro v9 n9 h9 tk9 F9 N9 hv9; (dsimp only [RetDip, RetDipP] at hv9); obtain ⟨x9, t9, t9', e1, lo9, hi9, e2⟩ := hv9; subst e1; replace e2 := e2.symm; subst e2; (try simp only [List.cons_append, List.nil_append] at N9); (try dsimp only); (try k_fold)))))) | ((with_reducible show wpAny _ _ (subscriptTail _ _ _ _) _ _ _); first | ((k_here; (with_reducible show wpAny _ _ (subscriptTail _ _ (Value.ref _) (Value.int _ _)) _ _ _); (with_unfolding_all refine' item_anyR (P := IsWord) ?k1 ?k2 ?k3 ?k4 ?k5 ?_ ?k6); (case k5 => with_reducible assumption); (case k1 => exact isl (by k_asm) (by tm_at "mem")); (case k2 => omega); (case k3 => omega); (case k4 => omega); (case k6 => with_unfolding_all rfl); k_whole; intro v9 hv9; obtain ⟨x9, hx9, t9, e9⟩ := hv9; subst e9))) | walk1 | (dsimp only; walk1) | (leave1; (try dsimp only)) | fail "no step"))
    unfold Hold
    have hmb := many_bounds (by assumption) (by assumption) (by assumption : 1 ≤ cLo _ ∧ cLo _ ≤ cHi _ ∧ cHi _ ≤ 3)
    refine law_args (by kernel_rfl) (by kernel_rfl) K0 T X9 (by k_asm) (by (try dsimp only); tm_at "lk") (by (try dsimp only); tm_at "lk") (by (try dsimp only); tm_at "lk") (by (try dsimp only); tm_at "lk") (cb_drop (by k_asm) (sub_cons (.tail _ (.tail _ (.tail _ (.head _)))) (sub_cons (.tail _ (.tail _ (.tail _ (.tail _ (.head _))))) (sub_cons (.tail _ (.tail _ (.tail _ (.tail _ (.tail _ (.tail _ (.head _))))))) (fun p hp => by cases hp))))) (by assumption) (by assumption) (by assumption) ?k1 ?k2 ?h1 ?h2 (by assumption) hmb.1 hmb.2 hQ
    case k1 => decide
    case k2 => decide
    case h1 => omega
    case h2 => omega))) only [↓boxed]
end
end
end Mine
local macro_rules | `(tactic| k_qdec) => `(tactic| kernel_rfl)
set_option maxHeartbeats 0 in
theorem PySem.Challenge.cw_pq1455_02_holds : PySem.Challenge.rw_pq1455_02.Holds := by
  refine Mine.hd ?_
  refine Mine.Box.out ?_
  simp (disch :=
    k_dflt ((
    refine Mine.keepP ?_
    k_go0
    all_goals try k_fold
    refine' Mine.law_body ?hsco ?hbody ?K0 ?T ?X ?hL ?hI ?hlen ?F ?N ?ho ?hQ
    case hsco => kernel_rfl
    case hbody => kernel_rfl
    case K0 => assumption
    case T => assumption
    case X => assumption
    case hL => assumption
    case hI => assumption
    case hlen => omega
    case F => assumption
    case N => assumption
    case ho => assumption
    case hQ =>
      intro h tk m F9
      k_steps))) only [↓Mine.boxed]

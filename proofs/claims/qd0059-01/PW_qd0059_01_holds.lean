import PyProof.Rows.All
import Wide.All
import OpenK.AllK
import Wide.FinOn
import Lean
import PySem.Challenge.RW_qd0059_01
set_option Elab.async false
set_option maxRecDepth 100000
namespace Mine
open PySem PySem.W PyProof.Rows
set_option maxHeartbeats 4000000
set_option linter.unusedVariables false
set_option linter.unusedSimpArgs false
set_option maxHeartbeats 8000000
abbrev pw : Program := PySem.Challenge.pw_qd0059_01
abbrev row : OpenRow := OpenLaw.row PySem.Challenge.rw_qd0059_01
def keepStmt : Stmt → Bool
  | .Assign [.Name n _] _ _ => !(n == Str.ofString "__name__")
  | _ => true
def view : Program := { pw with main := { pw.main with body := pw.main.body.filter keepStmt } }
theorem said : OpenLaw.wellSaid PySem.Challenge.rw_qd0059_01 = true := by
  first | rw [PySem.W.Fast.te9446332074065402090] | skip
  kernel_rfl
theorem opensOk : (chainsOk view && opensWell row.prog && (frees row.toRowW && row.within.isEmpty)) = true := by kernel_rfl
section
local macro_rules | `(tactic| o_head $_H) => `(tactic| assumption)
theorem frag (_h : row.Holds) : row.Holds := by k_head
end
def P0 : Params := { strHash := fun _ => 0, shareClass := fun _ => 0, mergeTok := id, idOf := fun _ => 0, idOfShared := fun _ _ => 0, followText := fun _ => true, idOfImm := fun _ => 0 }
noncomputable abbrev K : Params → Frag := frag.heap_1
noncomputable def addrs : List Addr := (K P0).map (·.1)
noncomputable def hook : Hook := kHook K addrs (fun _ => by kernel_rfl)
theorem endAt_through (t : Thread) : (endAt 0 t).isSome = through t := by
  obtain ⟨cur, code, pos, stack⟩ := t
  cases stack with
  | nil => cases cur <;> first | rfl | (rename_i f; cases f <;> rfl)
  | cons x r => rfl
theorem topRun_of {tb : String → Option Builtin} {p : Program} {w : World} {n₀ : Nat} {ann : Option Value} : ∀ {n : Nat} {s : SharedT} {t : Thread} {r : Flow × SharedT × Code × Pos}, segRunT tb p w n₀ ann 0 n s t = some r → topRun tb p w n₀ ann n s.abs t = some r.2.1.abs
  | 0, _, _, _, h => by cases h
  | n + 1, s, t, r, h => by
    have e := endAt_through t
    unfold segRunT at h
    unfold topRun
    cases he : endAt 0 t with
    | some x =>
      rw [he] at h e
      cases h
      rw [← e]
      rfl
    | none =>
      rw [he] at h e
      rw [← e]
      cases hk : stepOk n₀ ann t with
      | false => rw [hk] at h; cases h
      | true =>
        rw [hk] at h
        cases hs : stepT (denote tb) p w s t with
        | none => rw [hs] at h; cases h
        | some q => obtain ⟨s₂, t₂⟩ := q; rw [hs] at h; dsimp only [Option.isSome]; rw [stepT_spec hs]; exact topRun_of h
noncomputable def topTree (P : Params) : BT := ((boot_heap P).objs.toList.foldl (fun (x : BT × Nat) o => (x.1.ins x.2 o, x.2 + 1)) (BT.nil, 0)).1
noncomputable def topStart (w : World) (os : OsState) : SharedT := ⟨topTree w.params, (boot_heap w.params).objs.size, (boot_heap w.params).life, Array.mk [], boot_drawn, boot_toks, os⟩
theorem top_abs (w : World) (os : OsState) : (topStart w os).abs = ⟨boot_heap w.params, Array.mk [], boot_drawn, boot_toks, os⟩ := by kernel_rfl
theorem open_plain : opening pw = plainProg pw.main.scope.names := by kernel_rfl
theorem open_fence (s : Shared) : fenceModules? pw s = some s := by kernel_rfl
theorem top_ns (P : Params) : (boot_heap P).isNs mainGlobals = true := by kernel_rfl
theorem leftO_run {p q : Program} {loose : List Str} {Xt : Shared → Bool} {α : Type} {Yf : Shared → α} {Ya : World → α} {N : Nat} {g0 : Bool} {H : Params → Heap} {d : Drawn} {k : Nat} {S : World → OsState → SharedT}
    (ho : ∀ w : World, (fencedOpening treeTable p w N).map (fun s => (s.heap, s.gens, s.drawn, s.toks)) = some (H w.params, Array.mk [], d, k))
    (hn : ∀ P, (H P).isNs mainGlobals = true) (hS : ∀ w os, (S w os).abs = ⟨H w.params, Array.mk [], d, k, os⟩)
    (hr : ∀ w os, (segRunT treeTable p w (H w.params).objs.size ((H w.params).nsMap mainGlobals "__annotations__") 0 N (S w os) (topStub p)).map (fun r =>
      ((staticsOk (importedModules p.main.body) (H w.params) r.2.1.abs.heap && namesBound p r.2.1.abs.heap && gensDone r.2.1.abs && laidKept (H w.params) r.2.1.abs.heap : Bool), (openSeen q loose (importedModules p.main.body) Xt g0 r.2.1.abs, Yf r.2.1.abs))) = some (true, (openGood q loose, Ya w))) :
    LeftO p q loose Xt Yf Ya N g0 := fun w => by
  obtain ⟨s, hs, hv⟩ := Option.map_eq_some_iff.mp (ho w)
  obtain ⟨hp, gn, dr, tk, os⟩ := s
  obtain ⟨rfl, rfl, rfl, rfl⟩ : hp = _ ∧ gn = _ ∧ dr = _ ∧ tk = _ := by simpa using hv
  obtain ⟨r, hr, hl⟩ := Option.map_eq_some_iff.mp (hr w os)
  have ht := topRun_of hr
  rw [hS] at ht
  obtain ⟨h1, h2⟩ := Prod.mk.inj hl
  unfold openEnds
  rw [hs, Option.bind_some]
  unfold topFrom
  dsimp only
  rw [hn, ht]
  show (match (staticsOk (importedModules p.main.body) (H w.params) r.2.1.abs.heap && namesBound p r.2.1.abs.heap && gensDone r.2.1.abs && laidKept (H w.params) r.2.1.abs.heap) with | true => some r.2.1.abs | false => none).map _ = _
  rw [h1]
  exact congrArg some h2
theorem top_run (w : World) (os : OsState) : (segRunT treeTable pw w (boot_heap w.params).objs.size ((boot_heap w.params).nsMap mainGlobals "__annotations__") 0 5422 (topStart w os) (topStub pw)).map (fun r =>
      ((staticsOk (importedModules pw.main.body) (boot_heap w.params) r.2.1.abs.heap && namesBound pw r.2.1.abs.heap && gensDone r.2.1.abs && laidKept (boot_heap w.params) r.2.1.abs.heap : Bool), (openSeen view [Str.ofString "ToolError"] (importedModules pw.main.body) (fun s => xlAt view [] s && recOk (RowW.records row.toRowW) s) true r.2.1.abs, Hook.obs hook r.2.1.abs))) = some (true, (openGood view [Str.ofString "ToolError"], Hook.val hook w)) := by
  first | rw [PySem.W.Fast.te10110043849684766642, PySem.W.Fast.te14364793385576792824] | skip
  kernel_rfl
theorem left : LeftO pw view [Str.ofString "ToolError"] (fun s => xlAt view [] s && recOk (RowW.records row.toRowW) s) (Hook.obs hook) (Hook.val hook) 5422 :=
  leftO_run (boot_open open_plain rfl open_fence) top_ns top_abs top_run
section
local macro_rules | `(tactic| o_law) => `(tactic| refine holds_law said fun said => ?_)
local macro_rules | `(tactic| k_head) => `(tactic|
  refine holds_open (q := view) (loose := [Str.ofString "ToolError"]) (Xt := fun s => xlAt view [] s && recOk (RowW.records row.toRowW) s) (XP := XL view [])
    (Yf := Hook.obs hook) (Ya := Hook.val hook) (YP := Hook.says hook) (N := 5422) left (Hook.of hook) (Hook.keeps hook) (fun s e => xl_of s (Bool.and_eq_true_iff.mp e).1) XL.keeps (by rfl) (by rfl) (by rfl) (fun s e => recFacts_of (Bool.and_eq_true_iff.mp e).2) (by rfl) (by assumption) opensOk ⟨rfl, rfl, rfl, rfl, rfl, by kernel_rfl⟩ ?hw ?hc)
open_top hd for PySem.Challenge.rw_qd0059_01
end
end Mine
namespace Mine
open PySem PySem.W PyProof.Rows PySem.Calls
set_option maxHeartbeats 4000000
set_option linter.unusedVariables false
set_option linter.unusedSimpArgs false
set_option hygiene false
local macro_rules | `(tactic| walk_at $s:str) => `(tactic| k_extra $s)
local macro_rules | `(tactic| ktr_room) => `(tactic| k_extra "ktr_room")
local macro_rules | `(tactic| ktr_units) => `(tactic| k_extra "ktr_units")
local macro_rules | `(tactic| ktr_enter) => `(tactic| k_extra "ktr_enter")
local macro_rules | `(tactic| ktr_step) => `(tactic| k_extra "ktr_step")
local macro_rules | `(tactic| k_room) => `(tactic| k_extra "k_room")
local macro_rules | `(tactic| k_ne) => `(tactic| k_extra "k_ne")
local macro_rules | `(tactic| k_memK) => `(tactic| k_extra "k_memK")
local macro_rules | `(tactic| kat_tups) => `(tactic| k_extra "kat_tups")
local macro_rules | `(tactic| top_args) => `(tactic| k_extra "top_args")
local macro_rules | `(tactic| mem_news) => `(tactic| k_extra "mem_news")
local macro_rules | `(tactic| k_all) => `(tactic| k_extra "k_all")
local macro_rules | `(tactic| k_allIn) => `(tactic| k_extra "k_allIn")
local macro_rules | `(tactic| ktr_rel) => `(tactic| k_extra "ktr_rel")
local macro_rules | `(tactic| ktn_open) => `(tactic| k_extra "ktn_open")
local macro_rules | `(tactic| tb_start) => `(tactic| k_extra "tb_start")
local macro_rules | `(tactic| tb_rel) => `(tactic| k_extra "tb_rel")
local macro_rules | `(tactic| boot_fact) => `(tactic| k_extra "boot_fact")
local macro_rules | `(tactic| nest_cls) => `(tactic| k_extra "nest_cls")
local macro_rules | `(tactic| kas_types) => `(tactic| k_extra "kas_types")
local macro_rules | `(tactic| krn_off) => `(tactic| k_extra "krn_off")
local macro_rules | `(tactic| tlg_ne) => `(tactic| k_extra "tlg_ne")
local macro_rules | `(tactic| top_name) => `(tactic| k_extra "top_name")
local macro_rules | `(tactic| k_inst) => `(tactic| k_extra "k_inst")
local macro_rules | `(tactic| k_handed) => `(tactic| k_extra "k_handed")
local macro_rules | `(tactic| k_qdec) => `(tactic| k_extra "k_qdec")
local macro_rules | `(tactic| k_lt $h) => `(tactic| first | k_extra "ltSkip" | (k_extra "ltA"; replace $h := allLt_of $h; simp only [AllLt, and_true] at $h:ident; (try (have hALt := $h; repeat (replace hALt := And.right hALt)))))
local macro_rules | `(tactic| k_steps) => `(tactic| repeat' (first | (k_unfold; (try dsimp only)) | (k_end; wrow_close) | (walk1 <;> (first | (with_reducible show wpAny _ _ (subscriptTail _ (PySem.Expr.Slice _ _ _ _) _ _) _ _ _) | (try dsimp only))) | (dsimp only; walk1) | (leave1; walk_say "STEP leave1"; try dsimp only) | fail "no step"))
theorem view_names : namesOk view (looseW view [Str.ofString "ToolError"]) (namesW view [Str.ofString "ToolError"]) = true := by kernel_rfl
theorem view_imports : importsNone view = true := by kernel_rfl
theorem zr_of {α β γ : Type} {l : List γ} {f : γ → α} {ns : List α} {as : List β} {rs : List (α × β)} (h : l.map f = ns) (k : (ns.zip as).reverse = rs) : ((l.map f).zip as).reverse = rs := by rw [h]; exact k
theorem zr1 {α β : Type} {a0 : α} {x0 : β} : ([a0].zip [x0]).reverse = [(a0, x0)] := rfl
theorem zr2 {α β : Type} {a0 a1 : α} {x0 x1 : β} : ([a0, a1].zip [x0, x1]).reverse = [(a1, x1), (a0, x0)] := rfl
theorem zr3 {α β : Type} {a0 a1 a2 : α} {x0 x1 x2 : β} : ([a0, a1, a2].zip [x0, x1, x2]).reverse = [(a2, x2), (a1, x1), (a0, x0)] := rfl
theorem zr4 {α β : Type} {a0 a1 a2 a3 : α} {x0 x1 x2 x3 : β} : ([a0, a1, a2, a3].zip [x0, x1, x2, x3]).reverse = [(a3, x3), (a2, x2), (a1, x1), (a0, x0)] := rfl
theorem zr5 {α β : Type} {a0 a1 a2 a3 a4 : α} {x0 x1 x2 x3 x4 : β} : ([a0, a1, a2, a3, a4].zip [x0, x1, x2, x3, x4]).reverse = [(a4, x4), (a3, x3), (a2, x2), (a1, x1), (a0, x0)] := rfl
theorem zr6 {α β : Type} {a0 a1 a2 a3 a4 a5 : α} {x0 x1 x2 x3 x4 x5 : β} : ([a0, a1, a2, a3, a4, a5].zip [x0, x1, x2, x3, x4, x5]).reverse = [(a5, x5), (a4, x4), (a3, x3), (a2, x2), (a1, x1), (a0, x0)] := rfl
theorem zr7 {α β : Type} {a0 a1 a2 a3 a4 a5 a6 : α} {x0 x1 x2 x3 x4 x5 x6 : β} : ([a0, a1, a2, a3, a4, a5, a6].zip [x0, x1, x2, x3, x4, x5, x6]).reverse = [(a6, x6), (a5, x5), (a4, x4), (a3, x3), (a2, x2), (a1, x1), (a0, x0)] := rfl
theorem zr8 {α β : Type} {a0 a1 a2 a3 a4 a5 a6 a7 : α} {x0 x1 x2 x3 x4 x5 x6 x7 : β} : ([a0, a1, a2, a3, a4, a5, a6, a7].zip [x0, x1, x2, x3, x4, x5, x6, x7]).reverse = [(a7, x7), (a6, x6), (a5, x5), (a4, x4), (a3, x3), (a2, x2), (a1, x1), (a0, x0)] := rfl
/-- the machine's surroundings of a call -/
abbrev Ar (dp un : Nat) (gd : Option (List Code)) (frs : List Env) : Around := { handled := none, depth := dp, frames := some frs, guards := gd, units := un }

abbrev prg : Program := row.toRowW.prog

/-- what stands behind every call: the ground heap, the stack's frames -/
structure Gd (w : World) (loose : List Str) (mean : ExcName → Option Value) (mg mb : Str → Option Value) (base h : Heap) (frs : List Env) : Prop where
  X : (frag.heap_1 w.params).In base
  T : Top view loose mean mg mb base
  st : base.StaysIn h
  fr : h.FunFrames base frs

abbrev adr (l : List (Addr × Obj)) : List Addr := l.map Prod.fst

noncomputable def Off (frs : List Env) (fpo : List (Addr × Obj)) : Prop := ∀ env ∈ frs, ∀ p ∈ fpo, env.frame ≠ some p.1
noncomputable def FP (base h : Heap) (fpo : List (Addr × Obj)) : Prop := ∀ p ∈ fpo, h.get? p.1 = some p.2 ∧ base.get? p.1 = none
noncomputable def Kp (fp : List Addr) (h h' : Heap) : Prop := ∀ b o, h.get? b = some o → b ∉ fp → h'.get? b = some o
noncomputable def Nw (fp : List Addr) (h h' : Heap) (news' : List (Addr × Obj)) : Prop := ∀ p ∈ news', h'.get? p.1 = some p.2 ∧ (p.1 ∈ fp ∨ h.get? p.1 = none)

/-- an exception of the program's own class flies -/
noncomputable def Fly (h : Heap) (frs : List Env) (e : Addr) (h' : Heap) : Prop :=
  (∃ B a0, (∀ b o, h.get? b = some o → b ∉ frs.filterMap (·.frame) → B.get? b = some o) ∧ Heap.FlyingW B frs e (.ref 59) a0 h') ∧ h.UpToSlots h'

noncomputable def Spec (w : World) (loose : List Str) (mean : ExcName → Option Value) (mg mb : Str → Option Value) (base : Heap)
    (f : Addr) (args : List Value) (k : Nat) (h : Heap) (fpo : List (Addr × Obj)) (Post : Value → List (Addr × Obj) → Prop) (Exc : Prop) : Prop :=
  ∀ (frs : List Env) (dp un : Nat) (gd : Option (List Code)) (s : Shared) (R : Result → Shared → Prop), s.heap = h → Gd w loose mean mg mb base h frs → Off frs fpo → dp + k < recursionLimit → un + 8 * k < cLine →
    (∀ v h' tk' news', Kp (adr fpo) h h' → Nw (adr fpo) h h' news' → Post v news' → R (.ok (.ret v)) { s with heap := h', toks := tk' }) →
    (Exc → ∀ e h' tk', Fly h frs e h' → R (.error (.ref e)) { s with heap := h', toks := tk' }) →
    codeAny (model prg w) (Ar dp un gd frs) (.call (.ref f) ⟨args, []⟩) R s

noncomputable def LeaveC (h g : Heap) (fp : List Addr) (R : Result → Shared → Prop) (v : Value) (s' : Shared) : Prop :=
  ∃ L' m' news', Fr g L' s'.heap m' ∧ News g L' s'.heap news' ∧ (Kp fp h s'.heap → Nw fp h s'.heap news' → R (.ok (.ret v)) s')
theorem leaveC {h g : Heap} {fp : List Addr} {R : Result → Shared → Prop} {v : Value} {s' : Shared} {L' : Addr} {m' : Str → Option Value} {news' : List (Addr × Obj)} (F : Fr g L' s'.heap m') (N : News g L' s'.heap news')
    (k : Kp fp h s'.heap → Nw fp h s'.heap news' → R (.ok (.ret v)) s') : LeaveC h g fp R v s' := ⟨L', m', news', F, N, k⟩

theorem Nw.sub {fp : List Addr} {h h' : Heap} {l l' : List (Addr × Obj)} (n : Nw fp h h' l) (s : ∀ p ∈ l', p ∈ l) : Nw fp h h' l' := fun p hp => n p (s p hp)

section
variable {w : World} {loose : List Str} {mean : ExcName → Option Value} {mg mb : Str → Option Value} {base : Heap}

theorem enter {frs : List Env} {dp un : Nat} {gd : Option (List Code)} {s : Shared} {R : Result → Shared → Prop}
    {name qual : Str} {params : Arguments} {body : List Stmt} {scope : Scope} {dV kV doc pm cdv ct oc : Value} {an od : Option Addr} {osl : Array (Option Value)} {f : Addr} {args : Args} {binds : List (Str × Value)}
    (G : Gd w loose mean mg mb base s.heap frs) (fpo : List (Addr × Obj)) (hfp : FP base s.heap fpo) (hap : Off frs fpo)
    (ho : (frag.heap_1 w.params).lookup f = some ⟨oc, od, .func (fnOf name qual params body scope dV kV doc pm an cdv ct), osl⟩) (hcd : codeIn (frag.heap_1 w.params) cdv qual = true) (hroom : dp < recursionLimit)
    (hbind : BindsTo s (fnOf name qual params body scope dV kV doc pm an cdv ct) args binds) (hloc : ∀ y ∈ binds, scope.names.lookup y.1 = some .local)
    (h : ∀ g L' h₁, (∀ b o, s.heap.get? b = some o → b ∉ adr fpo → g.get? b = some o) → Fr g L' h₁ (fun y => binds.reverse.lookup y) → News g L' h₁ fpo → Below (Ar dp un gd frs) base frs g → (frag.heap_1 w.params).In g → Top view loose mean mg mb g →
      wpAny (model prg w) ((Ar dp un gd frs).deeper (envOf qual scope L' f cdv)) (execs body (envOf qual scope L' f cdv))
        (fun fl s' => LeaveC s.heap g (adr fpo) R (match fl with | .ret v => v | _ => .none) s')
        (fun e s' => wpAny (model prg w) ((Ar dp un gd frs).deeper (envOf qual scope L' f cdv)) (leaving (envOf qual scope L' f cdv) e) (fun _ s'' => R (.error e) s'') (fun e' s'' => R (.error e') s'') s')
        { s with heap := h₁, toks := s.toks + binds.length })
    (hco : scope.isCoroutine = false) (hgen : scope.isGenerator = false) (hk : scope.kind = .function)
    (hcell : ∀ x ∈ scope.names, x.2 ≠ .cell) : codeAny (model prg w) (Ar dp un gd frs) (.call (.ref f) args) R s := by
  have Xs := G.X.keeps G.st
  refine codeAny_call_def (fd := fnOf name qual params body scope dV kV doc pm an cdv ct) (body := body) (binds := binds) hroom (Xs _ _ ho) rfl (G.T.nolimit.keeps G.st) (codeRec_of Xs hcd) rfl hbind hcell hloc (fun h₁ hns hk₁ => ?_) hco hgen hk
  have keep : ∀ b o, s.heap.get? b = some o → b ∉ adr fpo → (hideAll s.heap (adr fpo)).get? b = some o := fun b o e q => hideAll_get _ e q
  have nb : ∀ b o, base.get? b = some o → b ∉ adr fpo := fun b o e q => by
    obtain ⟨p, hp, rfl⟩ := List.mem_map.mp q
    rw [(hfp p hp).2] at e; cases e
  have st : base.StaysIn (hideAll s.heap (adr fpo)) := fun b o e => keep b o (G.st b o e) (nb b o e)
  have fl : (hideAll s.heap (adr fpo)).FunFrames base frs := funFrames_hideAll G.fr fun env he a ha hf => by
    obtain ⟨p, hp, rfl⟩ := List.mem_map.mp ha
    exact hap env he p hp hf
  refine wpAny_mono (h (hideAll s.heap (adr fpo)) s.heap.objs.size h₁ keep ⟨hns, fun b o e => hk₁ b o (of_hideAll _ e), Nat.le_of_eq (hideAll_size _ _)⟩
    (fun p hp => ⟨hk₁ _ _ (hfp p hp).1, Nat.ne_of_lt (Heap.lt_size (hfp p hp).1), hideAll_none _ (List.mem_map_of_mem hp)⟩) ⟨rfl, st, fl⟩ (Frag.In.keeps G.X fun b o e => st b o e) (Top.keeps G.T fun b o e => st b o e)) (fun fl s' hl => ?_) fun _ _ y => y
  obtain ⟨L', m', news', F', N', k⟩ := hl
  refine k (fun b o e q => F'.keep b o (keep b o e q)) fun p hp => ⟨(N' p hp).1, ?_⟩
  by_cases q : p.1 ∈ adr fpo
  · exact .inl q
  · refine .inr ?_
    cases e : s.heap.get? p.1 with
    | none => rfl
    | some o => have := (N' p hp).2.2; rw [keep _ _ e q] at this; cases this

theorem enterP {frs : List Env} {dp un : Nat} {gd : Option (List Code)} {s : Shared} {R : Result → Shared → Prop}
    {name qual : Str} {params : Arguments} {body : List Stmt} {scope : Scope} {dV kV doc pm cdv ct oc : Value} {an od : Option Addr} {osl : Array (Option Value)} {f : Addr} {args : List Value} {rs : List (Str × Value)}
    (G : Gd w loose mean mg mb base s.heap frs) (fpo : List (Addr × Obj)) (hfp : FP base s.heap fpo) (hap : Off frs fpo)
    (ho : (frag.heap_1 w.params).lookup f = some ⟨oc, od, .func (fnOf name qual params body scope dV kV doc pm an cdv ct), osl⟩) (hcd : codeIn (frag.heap_1 w.params) cdv qual = true) (hroom : dp < recursionLimit)
    (hbind : bindArgs (fnOf name qual params body scope dV kV doc pm an cdv ct) ⟨args, []⟩ = pure ((params.args.map (·.arg)).zip args)) (hr : ((params.args.map (·.arg)).zip args).reverse = rs) (hloc : ∀ y ∈ (params.args.map (·.arg)).zip args, scope.names.lookup y.1 = some .local)
    (h : ∀ g L' h₁ tk, (∀ b o, s.heap.get? b = some o → b ∉ adr fpo → g.get? b = some o) → Fr g L' h₁ (fun y => rs.lookup y) → News g L' h₁ fpo → Below (Ar dp un gd frs) base frs g → (frag.heap_1 w.params).In g → Top view loose mean mg mb g →
      wpAny (model prg w) ((Ar dp un gd frs).deeper (envOf qual scope L' f cdv)) (execs body (envOf qual scope L' f cdv))
        (fun fl s' => LeaveC s.heap g (adr fpo) R (match fl with | .ret v => v | _ => .none) s')
        (fun e s' => wpAny (model prg w) ((Ar dp un gd frs).deeper (envOf qual scope L' f cdv)) (leaving (envOf qual scope L' f cdv) e) (fun _ s'' => R (.error e) s'') (fun e' s'' => R (.error e') s'') s')
        { s with heap := h₁, toks := tk })
    (hco : scope.isCoroutine = false) (hgen : scope.isGenerator = false) (hk : scope.kind = .function)
    (hcell : ∀ x ∈ scope.names, x.2 ≠ .cell) : codeAny (model prg w) (Ar dp un gd frs) (.call (.ref f) ⟨args, []⟩) R s :=
  enter G fpo hfp hap ho hcd hroom (BindsTo.of_eq hbind) hloc (fun g L' h₁ a b c d e f => h g L' h₁ _ a (hr ▸ b) c d e f) hco hgen hk hcell

theorem use {f : Addr} {args : List Value} {k : Nat} {fpo : List (Addr × Obj)} {Post : Value → List (Addr × Obj) → Prop} {Exc : Prop} {s : Shared}
    {A A₀ : Around} {env : Env} {frs : List Env} {g : Heap} {L : Addr} {m : Str → Option Value} {news rest : List (Addr × Obj)} {Q E : Value → Shared → Prop} {dp un : Nat} {gd : Option (List Code)}
    (Sp : Spec w loose mean mg mb base f args k s.heap fpo Post Exc)
    (X : (frag.heap_1 w.params).In base) (T : Top view loose mean mg mb base) (B : Below A₀ base frs g) (F : Fr g L s.heap m) (N : News g L s.heap news)
    (hA : A = Ar dp un gd (env :: frs)) (hL : env.frame = some L) (hke : env.scope.kind ≠ .module) (hd : dp + k < recursionLimit) (hu : un + 8 * k < cLine)
    (hfp : ∀ p ∈ fpo, p ∈ news) (hrest : ∀ p ∈ rest, p ∈ news ∧ p.1 ∉ adr fpo)
    (ret : ∀ v h' tk' news', Fr g L h' m → News g L h' (news' ++ rest) → (∀ p ∈ news', p.1 ∈ adr fpo ∨ ∀ q ∈ news, q.1 ≠ p.1) → Kp (adr fpo) s.heap h' → Post v news' → Q v { s with heap := h', toks := tk' })
    (err : Exc → ∀ e h' tk', Fly s.heap (env :: frs) e h' → E (.ref e) { s with heap := h', toks := tk' }) :
    wpAny (model prg w) A (call (.ref f) args) Q E s := by
  subst hA
  have hnew : base.get? L = none := by
    cases hq : base.get? L with
    | none => rfl
    | some o => exact absurd (Nat.lt_of_lt_of_le (Heap.lt_size (B.stays L o hq)) F.above) (Nat.lt_irrefl _)
  have FF : s.heap.FunFrames base (env :: frs) := .cons hke hL F.ns hnew (B.frames.of_keeps fun b o e _ => ⟨o, F.keep b o e, rfl⟩)
  have hin : ∀ p ∈ fpo, g.get? p.1 = none ∧ p.1 ≠ L := fun p hp => ⟨(N p (hfp p hp)).2.2, (N p (hfp p hp)).2.1⟩
  refine wpAny_call (Sp (env :: frs) dp un gd s _ rfl ⟨X, T, fun b o e => F.keep b o (B.stays b o e), FF⟩ (fun en he p hp hq => ?_) hd hu (fun v h' tk' news' kp nw po => ?_) (fun ex e h' tk' fl => err ex e h' tk' fl))
  · rcases List.mem_cons.mp he with rfl | he
    · rw [hL] at hq; exact (hin p hp).2 (Option.some.inj hq).symm
    · obtain ⟨_, o, ho, _⟩ := B.frames.mem (List.mem_filterMap.mpr ⟨en, he, hq⟩)
      rw [(hin p hp).1] at ho; cases ho
  · have nL : L ∉ adr fpo := fun q => by
      obtain ⟨p, hp, e⟩ := List.mem_map.mp q
      exact (hin p hp).2 e
    obtain ⟨oL, es, ep, hoL, r⟩ := F.ns
    refine ret v h' tk' news' ⟨⟨oL, es, ep, kp _ _ hoL nL, r⟩, fun b o e => kp b o (F.keep b o e) (fun q => ?_), F.above⟩ (fun p hp => ?_) (fun p hp => ?_) kp po
    · obtain ⟨p, hp, rfl⟩ := List.mem_map.mp q
      rw [(hin p hp).1] at e; cases e
    · rcases List.mem_append.mp hp with hp | hp
      · refine ⟨(nw p hp).1, ?_⟩
        rcases (nw p hp).2 with q | q
        · obtain ⟨p', hp', e⟩ := List.mem_map.mp q
          rw [← e]; exact ⟨(hin p' hp').2, (hin p' hp').1⟩
        · refine ⟨fun e => ?_, ?_⟩
          · rw [e, hoL] at q; cases q
          · cases e : g.get? p.1 with
            | none => rfl
            | some o => rw [F.keep _ _ e] at q; cases q
      · obtain ⟨hn, hq⟩ := hrest p hp
        exact ⟨kp _ _ (N p hn).1 hq, (N p hn).2⟩
    · rcases (nw p hp).2 with q | q
      · exact .inl q
      · refine .inr fun q' hq' e => ?_
        rw [← e, (N q' hq').1] at q; cases q

theorem use0 {f : Addr} {args : List Value} {k : Nat} {val : Value} {Exc : Prop} {s : Shared}
    {A A₀ : Around} {env : Env} {frs : List Env} {g : Heap} {L : Addr} {m : Str → Option Value} {news : List (Addr × Obj)} {Q E : Value → Shared → Prop} {dp un : Nat} {gd : Option (List Code)}
    (Sp : Spec w loose mean mg mb base f args k s.heap [] (fun v n => v = val ∧ n = []) Exc)
    (X : (frag.heap_1 w.params).In base) (T : Top view loose mean mg mb base) (B : Below A₀ base frs g) (F : Fr g L s.heap m) (N : News g L s.heap news)
    (hA : A = Ar dp un gd (env :: frs)) (hL : env.frame = some L) (hke : env.scope.kind ≠ .module) (hd : dp + k < recursionLimit) (hu : un + 8 * k < cLine)
    (ret : ∀ h' tk', Fr g L h' m → News g L h' news → Q val { s with heap := h', toks := tk' })
    (err : Exc → ∀ e h' tk', Fly s.heap (env :: frs) e h' → E (.ref e) { s with heap := h', toks := tk' }) :
    wpAny (model prg w) A (call (.ref f) args) Q E s :=
  use (rest := news) Sp X T B F N hA hL hke hd hu (fun _ hp => nomatch hp) (fun p hp => ⟨hp, fun q => nomatch q⟩)
    (fun v h' tk' news' F' N' _ _ po => by obtain ⟨rfl, rfl⟩ := po; exact ret h' tk' F' N') err
end
/-- plain words of a display or a call: constants and the frame's own names -/
inductive Atoms (m : Str → Option Value) (env : Env) : List PySem.Expr → Nat → List Value → Nat → Prop
  | nil {tk : Nat} : Atoms m env [] tk [] tk
  | str {x : Str} {k p} {es : List PySem.Expr} {tk tk' : Nat} {vs : List Value} : Atoms m env es (tk + 1) vs tk' → Atoms m env (.Constant (.str x) k p :: es) tk (.str x tk :: vs) tk'
  | int {i : Int} {k p} {es : List PySem.Expr} {tk tk' : Nat} {vs : List Value} : Atoms m env es (tk + 1) vs tk' → Atoms m env (.Constant (.int i) k p :: es) tk (.int i tk :: vs) tk'
  | none {k p} {es : List PySem.Expr} {tk tk' : Nat} {vs : List Value} : Atoms m env es tk vs tk' → Atoms m env (.Constant .none k p :: es) tk (.none :: vs) tk'
  | name {x : Str} {p} {v : Value} {es : List PySem.Expr} {tk tk' : Nat} {vs : List Value} : m x = some v → env.kindOf x = some .local → (x == ("__debug__" : Str)) = false → Atoms m env es tk vs tk' → Atoms m env (.Name x p :: es) tk (v :: vs) tk'
section
variable {M : Model} {A : Around} {E : Value → Shared → Prop} {s : Shared} {h₀ : Heap} {L a : Addr} {m : Str → Option Value} {cn : Str} {cs : Scope} {ccd : Value} {cl : List (Str × Addr)}
theorem atoms_go (hk : cs.kind = .function) {pos : Pos} {es : List PySem.Expr} {tk tk' : Nat} {vs : List Value} (H : Atoms m (envX cn cs L a ccd cl) es tk vs tk') :
    ∀ (s : Shared) (Q : List Value → Shared → Prop), s.toks = tk → Fr h₀ L s.heap m → Q vs { s with toks := tk' } → wpAny M A (spliced (backTo pos (starEach es (envX cn cs L a ccd cl)))) Q E s := by
  induction H with
  | nil => intro s Q e F h; subst e; exact spliced_none h
  | str _ ih => intro s Q e F h; subst e; exact spliced_more (Constant_str (ih _ _ rfl F h))
  | int _ ih => intro s Q e F h; subst e; exact spliced_more (wpAny_Constant_int (ih _ _ rfl F h))
  | none _ ih => intro s Q e F h; subst e; exact spliced_more (wpAny_Constant_none (ih _ _ rfl F h))
  | name hv hx hd _ ih => intro s Q e F h; subst e; exact spliced_more (nameX_L F hv (ih _ _ rfl F h) hk hx hd)
theorem spliced_atoms {pos : Pos} {es : List PySem.Expr} {env : Env} {hp gn dr tk os} {tk' : Nat} {vs : List Value} {Q : List Value → Shared → Prop} (F : Fr h₀ L hp m) (he : env = envX cn cs L a ccd cl) (H : Atoms m env es tk vs tk')
    (h : Q vs ⟨hp, gn, dr, tk', os⟩) (hk : cs.kind = .function) : wpAny M A (spliced (backTo pos (starEach es env))) Q E ⟨hp, gn, dr, tk, os⟩ := by
  subst he
  exact atoms_go hk H ⟨hp, gn, dr, tk, os⟩ Q rfl F h
/-- a tuple of plain words -/
theorem tuple_atoms {pos : Pos} {k : Nat} {es : List PySem.Expr} {env : Env} {hp gn dr tk os} {tk' : Nat} {vs : List Value} {news : List (Addr × Obj)} {Q : Value → Shared → Prop} (F : Fr h₀ L hp m) (N : News h₀ L hp news) (he : env = envX cn cs L a ccd cl) (H : Atoms m env es tk vs tk')
    (hz : vs.length ≤ sizeLine) (h : ∀ D h', Fr h₀ L h' m → News h₀ L h' ((D, ({ cls := .type "tuple", data := .seq vs.toArray } : Obj)) :: news) → (∀ p ∈ news, p.1 < D) → Q (.ref D) ⟨h', gn, dr, tk', os⟩)
    (hk : cs.kind = .function) : wpAny M A (PySem.eval (.Tuple es k pos) env) Q E ⟨hp, gn, dr, tk, os⟩ :=
  Tuple_ (spliced_atoms F he H (kup_newTuple (s := ⟨hp, gn, dr, tk', os⟩) F N h hz) hk)
theorem list_atoms {pos : Pos} {es : List PySem.Expr} {env : Env} {hp gn dr tk os} {tk' : Nat} {vs : List Value} {news : List (Addr × Obj)} {Q : Value → Shared → Prop} (F : Fr h₀ L hp m) (N : News h₀ L hp news) (he : env = envX cn cs L a ccd cl) (H : Atoms m env es tk vs tk')
    (hz : vs.length ≤ sizeLine) (h : ∀ D h', Fr h₀ L h' m → News h₀ L h' ((D, listOf vs.toArray 0) :: news) → (∀ p ∈ news, p.1 < D) → Q (.ref D) ⟨h', gn, dr, tk', os⟩)
    (hk : cs.kind = .function) : wpAny M A (PySem.eval (.List es pos) env) Q E ⟨hp, gn, dr, tk, os⟩ :=
  List_ (spliced_atoms F he H (newList_K (s := ⟨hp, gn, dr, tk', os⟩) F N h hz) hk)
/-- a call of a def of the text with plain words -/
theorem call_atoms {K : Frag} {p : Program} {loose : List Str} {mg mb : Str → Option Value} {x : Str} {f : Addr} {np pos : Pos} {e : PySem.Expr} {es : List PySem.Expr} {env : Env} {hp gn dr tk os} {tk' : Nat} {vs : List Value} {Q : Value → Shared → Prop} (F : Fr h₀ L hp m) (X : K.In h₀) (T : TopRead p loose mg mb h₀) (he : env = envX cn cs L a ccd cl)
    (hg : nsIn K mainGlobals x = some (some (.ref f))) (hkeep : keepIn K (.ref f) = true) (H : Atoms m env (e :: es) tk vs tk') (h : wpAny M A (call (.ref f) vs) Q E ⟨hp, gn, dr, tk', os⟩)
    (hx : (envX cn cs L a ccd cl).kindOf x = some .globalImplicit) (hd : (x == ("__debug__" : Str)) = false) (hs : starEach (e :: es) (envX cn cs L a ccd cl) = (false, PySem.eval e (envX cn cs L a ccd cl)) :: starEach es (envX cn cs L a ccd cl))
    (hp' : (backTo pos (starEach es (envX cn cs L a ccd cl))).any (·.1) = false) (hk : cs.kind = .function) : wpAny M A (PySem.eval (.Call (.Name x np) (e :: es) [] pos) env) Q E ⟨hp, gn, dr, tk, os⟩ := by
  subst he
  exact wpAny_Call_ofName (nameX_K F X T hg (callWith_K X hkeep (spliced_atoms F rfl H ⟨X.keeps F.keep, h⟩ hk) hs hp') hk hx hd)
end
section
variable {prog : Program} {w : World} {A : Around} {E : Value → Shared → Prop} {s : Shared} {h₀ : Heap} {L a : Addr} {m : Str → Option Value} {cn : Str} {cs : Scope} {ccd : Value} {cl : List (Str × Addr)}
/-- a value against a written one -/
inductive EqC : Value → Const → Bool → Prop
  | int_no {r c : Int} {t : Tok} : r ≠ c → EqC (.int r t) (.int c) false
  | int_yes {r c : Int} {t : Tok} : r = c → EqC (.int r t) (.int c) true
  | str_no {r c : Str} {t : Tok} : (r == c) = false → EqC (.str r t) (.str c) false
  | str_yes {r c : Str} {t : Tok} : (r == c) = true → EqC (.str r t) (.str c) true
theorem test_eq {env : Env} {hp gn dr tk os} {x : Str} {v : Value} {c : Const} {b : Bool} {k} {p1 p2 p3 : Pos} {whole} {Q : Bool → Shared → Prop} (F : Fr h₀ L hp m) (he : env = envX cn cs L a ccd cl) (hv : m x = some v) (hc : EqC v c b) (h : Q b ⟨hp, gn, dr, tk + 1, os⟩)
    (hx : (envX cn cs L a ccd cl).kindOf x = some .local) (hd : (x == ("__debug__" : Str)) = false) (hk : cs.kind = .function) :
    wpAny (model prog w) A (isTrue (.Compare (.Name x p1) [.Eq] [.Constant c k p2] p3) env whole) Q E ⟨hp, gn, dr, tk, os⟩ := by
  subst he
  cases hc with
  | int_no q => exact wpAny_isTrue_Compare1 (nameX_L F hv (wpAny_Constant_int (PyProof.Rows.eq_int (wpAny_truthy_bool (by rw [beq_eq_false_iff_ne.mpr q]; exact h)))) hk hx hd)
  | int_yes q => exact wpAny_isTrue_Compare1 (nameX_L F hv (wpAny_Constant_int (PyProof.Rows.eq_int (wpAny_truthy_bool (by rw [beq_iff_eq.mpr q]; exact h)))) hk hx hd)
  | str_no q => exact wpAny_isTrue_Compare1 (nameX_L F hv (Constant_str (PyProof.Rows.eq_str (wpAny_truthy_bool (by rw [q]; exact h)))) hk hx hd)
  | str_yes q => exact wpAny_isTrue_Compare1 (nameX_L F hv (Constant_str (PyProof.Rows.eq_str (wpAny_truthy_bool (by rw [q]; exact h)))) hk hx hd)
theorem if_no {env : Env} {hp gn dr tk os} {x : Str} {v : Value} {c : Const} {k} {p1 p2 p3 pos : Pos} {body orelse : List Stmt} {Q : Flow → Shared → Prop} (F : Fr h₀ L hp m) (he : env = envX cn cs L a ccd cl) (hv : m x = some v) (hc : EqC v c false) (h : wpAny (model prog w) A (PySem.execs orelse env) Q E ⟨hp, gn, dr, tk + 1, os⟩)
    (hx : (envX cn cs L a ccd cl).kindOf x = some .local) (hd : (x == ("__debug__" : Str)) = false) (hk : cs.kind = .function) :
    wpAny (model prog w) A (PySem.exec (.If (.Compare (.Name x p1) [.Eq] [.Constant c k p2] p3) body orelse pos) env) Q E ⟨hp, gn, dr, tk, os⟩ :=
  wpAny_If (test_eq F he hv hc h hx hd hk)
theorem if_yes {env : Env} {hp gn dr tk os} {x : Str} {v : Value} {c : Const} {k} {p1 p2 p3 pos : Pos} {body orelse : List Stmt} {Q : Flow → Shared → Prop} (F : Fr h₀ L hp m) (he : env = envX cn cs L a ccd cl) (hv : m x = some v) (hc : EqC v c true) (h : wpAny (model prog w) A (PySem.execs body env) Q E ⟨hp, gn, dr, tk + 1, os⟩)
    (hx : (envX cn cs L a ccd cl).kindOf x = some .local) (hd : (x == ("__debug__" : Str)) = false) (hk : cs.kind = .function) :
    wpAny (model prog w) A (PySem.exec (.If (.Compare (.Name x p1) [.Eq] [.Constant c k p2] p3) body orelse pos) env) Q E ⟨hp, gn, dr, tk, os⟩ :=
  wpAny_If (test_eq F he hv hc h hx hd hk)
end
noncomputable def PB (k : Nat) (p0 pos : Int) : Prop := pos ≤ p0 + k
theorem PB.step {k : Nat} {p0 pos pos' : Int} (h : PB k p0 pos) (h' : pos' ≤ pos + 1) : PB (k + 1) p0 pos' := by unfold PB at *; omega
theorem PB.steps {k : Nat} {p0 pos pos' : Int} (h : PB k p0 pos) (h' : pos' ≤ pos + 11) : PB (k + 11) p0 pos' := by unfold PB at *; omega
theorem PB.lt {k : Nat} {p0 pos : Int} (h : PB k p0 pos) (h0 : p0 < 800000) (hk : k < 1000) : pos < 900000 := by unfold PB at *; omega
theorem PB.lt6 {k : Nat} {p0 pos : Int} (h : PB k p0 pos) (h0 : p0 < 800000) (hk : k < 1000) : pos < 1000000 := by unfold PB at *; omega
theorem PB.le {k n : Nat} {p0 pos : Int} (h : PB k p0 pos) (hk : k ≤ n) : pos ≤ p0 + n := by unfold PB at *; omega
theorem PB.start {p : Int} : PB 0 p p := by unfold PB; omega
theorem room1 {dp k K : Nat} (h : dp + K < recursionLimit) (e : k ≤ K) : dp + k < recursionLimit := by omega
theorem room2 {dp a k K : Nat} (h : dp + K < recursionLimit) (e : a + k ≤ K) : dp + a + k < recursionLimit := by omega
theorem units1 {un k K : Nat} (h : un + 8 * K < cLine) (e : k ≤ 8 * K) : un + k < cLine := by omega
theorem units2 {un a k K : Nat} (h : un + 8 * K < cLine) (e : a + k ≤ 8 * K) : un + a + k < cLine := by omega
theorem units3 {un a b k K : Nat} (h : un + 8 * K < cLine) (e : a + b + k ≤ 8 * K) : un + a + b + k < cLine := by omega
/-- apart by age -/
theorem ne_l1 {news : List (Addr × Obj)} {a D : Addr} {o : Obj} (l : ∀ p ∈ news, p.1 < D) (h : (a, o) ∈ news) : @Ne Nat a D := Nat.ne_of_lt (l _ h)
theorem ne_l1s {news : List (Addr × Obj)} {a D : Addr} {o : Obj} (l : ∀ p ∈ news, p.1 < D) (h : (a, o) ∈ news) : @Ne Nat a (D + 1) := Nat.ne_of_lt (Nat.lt_succ_of_lt (l _ h))
theorem ne_lt2 {news : List (Addr × Obj)} {a D E : Addr} {o : Obj} (l : ∀ p ∈ news, p.1 < D) (l2 : @LT.lt Nat instLTNat D E) (h : (a, o) ∈ news) : @Ne Nat a E := Nat.ne_of_lt (Nat.lt_trans (l _ h) l2)
theorem lt_l1 {news : List (Addr × Obj)} {a D : Addr} {o : Obj} (l : ∀ p ∈ news, p.1 < D) (h : (a, o) ∈ news) : @LT.lt Nat instLTNat a D := l _ h
theorem tail_l1 {news nd : List (Addr × Obj)} {D : Addr} (l : ∀ p ∈ news, p.1 < D) (h : ∀ p ∈ nd, p ∈ news) : ∀ p ∈ nd, p.1 ≠ D := fun p hp => Nat.ne_of_lt (l p (h p hp))
theorem words_B1 : True := by
  k_with_none
  k_with "ktr_room" =>
    ((try simp only [depth_under_make, depth_under_kw, depth_in1, depth_deeper]); (try dsimp only [Ar]); omega)
  k_with "ktr_units" =>
    ((try simp only [units_in1, units_deeper, Around.mark_units]); (try dsimp only [Ar]); omega)
  k_with "ktr_enter" =>
    (
      intro frs dp un gd s R hs G hap hd hu ret err
      subst hs
      have X := G.X
      have T := G.T
      k_dflt (
        refine' enterP G _ ?k1 hap ?k3 ?k4 ?k5 ?k6 ?k8 ?k7 ?_ ?c2 ?c3 ?c4 ?c5
        (case k3 => k_is)
        (case k4 => k_is)
        (case k1 => assumption)
        (case k5 => omega)
        (case k6 => exact rfl)
        (case k8 => (refine' zr_of ?zra ?zrb; (case zra => (dsimp only [List.map_cons, List.map_nil]; try exact rfl)); (case zrb => first | exact zr1 | exact zr2 | exact zr3 | exact zr4 | exact zr5 | exact zr6 | exact zr7 | exact zr8)))
        (case k7 => exact locs rfl)
        (case c2 => exact rfl)
        (case c3 => exact rfl)
        (case c4 => exact rfl)
        (case c5 => decide)
        k_whole
        intro g' L' h' tk' gk' F' N' B' X' T'
        (try dsimp only)
        (try k_fold)))
  trivial
section
variable {w : World} {loose : List Str} {mean : ExcName → Option Value} {mg mb : Str → Option Value} {base : Heap}

theorem fp0 {h : Heap} : FP base h [] := fun p hp => nomatch hp

noncomputable def kept (x : Str) : Bool := [Str.ofString "", Str.ofString "$"].any fun y => y == Txt.slice x none (some 1)
noncomputable def lit (x : Str) : Bool := Txt.slice x none (some 1) == Str.ofString "'"

theorem is_kept {h : Heap} {x : Str} {t : Tok} (hx : x.length < 1000) :
    Spec w loose mean mg mb base 200 [.str x t] 1 h [] (fun v n => v = .bool (kept x) ∧ n = []) False := by
  have fp := fp0 (base := base) (h := h)
  ktr_enter
  k_steps
  refine leaveC (by k_asm) (by k_asm) fun kp nw => ret _ _ _ [] kp (nw.sub fun p hp => nomatch hp) ⟨rfl, rfl⟩
theorem is_literal {h : Heap} {x : Str} {t : Tok} (hx : x.length < 1000) :
    Spec w loose mean mg mb base 193 [.str x t] 1 h [] (fun v n => v = .bool (lit x) ∧ n = []) False := by
  have fp := fp0 (base := base) (h := h)
  ktr_enter
  k_steps
  refine leaveC (by k_asm) (by k_asm) fun kp nw => ret _ _ _ [] kp (nw.sub fun p hp => nomatch hp) ⟨rfl, rfl⟩
end
theorem words_B15 : True := by
  k_with_none
  k_with "ktr_room" =>
    ((try simp only [depth_under_make, depth_under_kw, depth_in1, depth_deeper]); (try dsimp only [Ar]); omega)
  k_with "ktr_units" =>
    ((try simp only [units_in1, units_deeper, Around.mark_units]); (try dsimp only [Ar]); omega)
  k_with "ktr_enter" =>
    (
      intro frs dp un gd s R hs G hap hd hu ret err
      subst hs
      have X := G.X
      have T := G.T
      k_dflt (
        refine' enterP G _ ?k1 hap ?k3 ?k4 ?k5 ?k6 ?k8 ?k7 ?_ ?c2 ?c3 ?c4 ?c5
        (case k3 => k_is)
        (case k4 => k_is)
        (case k1 => assumption)
        (case k5 => omega)
        (case k6 => exact rfl)
        (case k8 => (refine' zr_of ?zra ?zrb; (case zra => (dsimp only [List.map_cons, List.map_nil]; try exact rfl)); (case zrb => first | exact zr1 | exact zr2 | exact zr3 | exact zr4 | exact zr5 | exact zr6 | exact zr7 | exact zr8)))
        (case k7 => exact locs rfl)
        (case c2 => exact rfl)
        (case c3 => exact rfl)
        (case c4 => exact rfl)
        (case c5 => decide)
        k_whole
        intro g' L' h' tk' gk' F' N' B' X' T'
        (try dsimp only [mled] at N')
        (try dsimp only)
        (try k_fold)))
  k_with "ktr_step" =>
    (
      intro frs dp un gd s R hs G hap hd hu ret err
      subst hs
      have X := G.X
      have T := G.T
      have Xs : (frag.heap_1 w.params).In s.heap := X.keeps G.st
      k_dflt (
        refine' enter G _ ?k1 hap ?k3 ?k4 ?k5 ?k6 ?k7 ?_ ?c2 ?c3 ?c4 ?c5
        (case k3 => k_is)
        (case k4 => k_is)
        (case k1 => assumption)
        (case k5 => omega)
        (case k6 => first | exact BindsTo.of_eq rfl | exact binds_K Xs rfl (by k_is) rfl rfl rfl)
        (case k7 => exact locs rfl)
        (case c2 => exact rfl)
        (case c3 => exact rfl)
        (case c4 => exact rfl)
        (case c5 => decide)
        k_whole
        intro g' L' h' gk' F' N' B' X' T'
        (try dsimp only [mled] at N')
        (try dsimp only)
        (try k_fold)))
  k_with "exec Raise some nonX" =>
    (k_dflt (refine' Raise_ge X T B' ?F X' T' ?d ?u ?a ?b ?c ?_; (case F => k_asm); (case d => ktr_room); (case u => ktr_units); (case a => exact rfl); (case b => exact rfl); (case c => exact rfl)))
  k_with "k_room" =>
    ktr_room
  k_with "call type:range" =>
    (k_dflt (refine' range1_rows ?F ?N ?_; (case F => k_asm); (case N => k_asm); intro h' tk' t1' u1' v1' R' F' N' kp'))
  k_with "exec For" =>
    (k_dflt (refine' For_own ?_ ?s; (case s => intro _; rfl)))
  k_with "call builtin:len" =>
    ((with_reducible show wpAny _ _ (call (Value.builtin "len") [Value.ref _]) _ _ _); k_dflt (refine' len_L' ?l ?z ?_; (case l => exact isL' (by k_asm) (by k_mem)); (case z => omega); k_whole))
  k_with "binaryOp FloorDiv int int" =>
    (refine floordiv_int (by omega) ?_ (Or.inl (noPy (by omega) (by omega))))
  k_with "compareOp NotEq ref ref" =>
    (k_dflt (refine' ne_nil ?l ?b ?u ?_ ?_; (case l => exact isL' (by k_asm) (by k_mem)); (case b => exact isLn (by k_asm) (by k_mem)); (case u => ktr_units)) <;> intro hnil)
  k_with "binaryOp Mult int int" =>
    (refine mul_int ?_ (by mul_fits))
  k_with "binaryOp Mod int int" =>
    (refine mod_int' (by omega) ?_)
  k_with "k_ne" =>
    (refine neN ?_; (try dsimp only); first | with_reducible exact Nat.ne_of_lt (by with_reducible assumption) | with_reducible exact Nat.ne_of_gt (by with_reducible assumption) | with_reducible assumption | with_reducible exact Ne.symm (by with_reducible assumption) | omega)
  k_with "k_memK" =>
    first | exact ne0 | (refine ne1 ?kmx ?_; (case kmx => k_ne); k_memK)
  k_with "ktr_room" =>
    ((try simp only [depth_under_make, depth_under_kw, depth_in1, depth_deeper]); (try dsimp only [Ar]); first | exact room1 (by with_reducible assumption) (by decide) | exact room2 (by with_reducible assumption) (by decide) | omega)
  k_with "ktr_units" =>
    ((try simp only [units_in1, units_deeper, Around.mark_units]); (try dsimp only [Ar]); first | exact units1 (by with_reducible assumption) (by decide) | exact units2 (by with_reducible assumption) (by decide) | exact units3 (by with_reducible assumption) (by decide) | omega)
  k_with "kat_tups" =>
    first | with_reducible_and_instances exact List.Mem.head _ | (refine List.Mem.tail _ ?_; kat_tups) | (refine List.mem_append.mpr (Or.inl ?_); kat_tups) | (refine List.mem_append.mpr (Or.inr ?_); kat_tups) | with_reducible assumption | with_reducible_and_instances exact hq | ((with_reducible show List.Mem _ _); with_reducible_and_instances assumption)
  k_with "top_args" =>
    first | exact List.forall_mem_nil _ | (refine List.forall_mem_cons.mpr (And.intro ?_ ?_); kat_tups; top_args) | (refine List.forall_mem_append.mpr (And.intro ?_ ?_); top_args; top_args) | (intro q hq; kat_tups)
  k_with "mem_news" =>
    first | ((with_reducible_and_instances (repeat (first | exact List.Mem.head _ | refine List.Mem.tail _ ?_))); done) | ((with_reducible show _ ∈ _); kat_tups) | ((try dsimp only [penL, booksL, mled, List.cons_append, List.nil_append]); top_args)
  k_with "ltD" =>
    first | with_reducible assumption | exact lt_l1 (by with_reducible assumption) (by kat_tups) | omega
  k_with "k_ne" =>
    (refine neN ?_; (try dsimp only); first | with_reducible assumption | with_reducible exact Ne.symm (by with_reducible assumption) | with_reducible exact Nat.ne_of_lt (by with_reducible assumption) | with_reducible exact Nat.ne_of_gt (by with_reducible assumption) | exact ne_l1 (by with_reducible assumption) (by kat_tups) | exact Ne.symm (ne_l1 (by with_reducible assumption) (by kat_tups)) | exact ne_l1s (by with_reducible assumption) (by kat_tups) | exact Ne.symm (ne_l1s (by with_reducible assumption) (by kat_tups)) | exact ne_lt2 (by with_reducible assumption) (by with_reducible assumption) (by kat_tups) | exact Ne.symm (ne_lt2 (by with_reducible assumption) (by with_reducible assumption) (by kat_tups)) | exact Anew.ne (by with_reducible assumption) (by kat_tups) | exact Ne.symm (Anew.ne (by with_reducible assumption) (by kat_tups)) | omega)
  k_with "k_all" =>
    first | exact List.forall_mem_nil _ | with_reducible assumption | exact tail_l1 (by with_reducible assumption) (by intro q hq; kat_tups) | (refine' List.forall_mem_cons.mpr ⟨?kaa, ?kab⟩; (case kaa => k_ne); (case kab => k_all))
  k_with "k_allIn" =>
    first | exact True.intro | with_reducible assumption | ((with_reducible refine AllNe.app ?_ ?_) <;> k_allIn) | (refine And.intro ?kah ?_; (case kah => k_memK); k_allIn)
  k_with "useC" =>
    (
      (case F => k_asm)
      (case N => k_asm)
      (case A => exact rfl)
      (case L => exact rfl)
      (case K => intro h9; cases h9)
      (case d => ktr_room)
      (case u => ktr_units)
      (case P => tb_start)
      (case ne => k_allIn))
  k_with "dipC" =>
    (
      (case ta => with_reducible assumption)
      (case tb => assumption)
      (case tc => assumption)
      k_extra "useC"
      (case tg => first | with_reducible assumption | omega)
      (case th => first | exact PB.lt6 (by with_reducible assumption) (by with_reducible assumption) (by decide) | exact PB.lt (by with_reducible assumption) (by with_reducible assumption) (by decide) | omega)
      (case ti => first | with_reducible assumption | omega))
  k_with "pbStep" =>
    (have hPB := PB.step (by with_reducible assumption) hp1)
  k_with "ltSkip" => skip
  trivial
abbrev penL (p c : Addr) (e : Nat) (pos : Int) (pt : Tok) (res : Int) (rt : Tok) (cs : List Value) (n : Nat) : List (Addr × Obj) := [(p, listOf [.ref c, .int pos pt, .int res rt].toArray e), (c, listOf cs.toArray n)]
theorem len_L' {A : Around} {E : Value → Shared → Prop} {s : Shared} {prog : Program} {w : World} {l : Addr} {vs : List Value} {Q : Value → Shared → Prop} (hl : s.heap.IsList l vs.toArray) (hz : vs.length < 1000000)
    (h : Q (.int vs.length (s.toks + 1)) { s with toks := s.toks + 1 + 1 }) : wpAny (model prog w) A (call (.builtin "len") [.ref l]) Q E s :=
  Calls.call_len_list hl (by rw [List.size_toArray]; omega) (by rw [List.size_toArray]; exact h)
theorem isL' {g h : Heap} {L a : Addr} {news : List (Addr × Obj)} {its : List Value} {n : Nat} (N : News g L h news) (hm : (a, listOf its.toArray n) ∈ news) : h.IsList a its.toArray := ⟨_, (N _ hm).1, rfl, n, rfl⟩
theorem noPy {x y : Int} (h0 : 0 < y) (h : y < 1000) : Builtin.divisionGoesByPylong x y = false := PyProof.noPylong_of_log2 (by
  have : y.natAbs < 2 ^ 10 := by omega
  have := (Nat.log2_lt (n := y.natAbs) (k := 10) (by omega)).2 this
  omega)
theorem ne_nil {A : Around} {E : Value → Shared → Prop} {s : Shared} {prog : Program} {w : World} {l b : Addr} {vs : List Value} {Q : Value → Shared → Prop} (hl : s.heap.IsList l vs.toArray) (hb : s.heap.IsList b #[]) (hu : A.units < cLine)
    (h0 : vs = [] → Q (.bool false) s) (h1 : vs ≠ [] → Q (.bool true) s) : wpAny (model prog w) A (compareOp .NotEq (.ref l) (.ref b)) Q E s := by
  cases vs with
  | nil => exact SeqAt.RcNeAt.lists (e := fun _ => true) hl hb rfl hu (fun j h1 _ => absurd h1 (Nat.not_lt_zero _)) prog w E Q (h0 rfl)
  | cons x xs => exact SeqAt.RcNeAt.lists_lengths hl hb (by simp) hu prog w E Q (h1 (fun q => nomatch q))
theorem isLn {g h : Heap} {L a : Addr} {news : List (Addr × Obj)} {n : Nat} (N : News g L h news) (hm : (a, listOf #[] n) ∈ news) : h.IsList a #[] := ⟨_, (N _ hm).1, rfl, n, rfl⟩
section
variable {w : World} {loose : List Str} {mean : ExcName → Option Value} {mg mb : Str → Option Value} {base : Heap}
theorem dip {h : Heap} {p c : Addr} {e : Nat} {pos : Int} {pt : Tok} {res : Int} {rt : Tok} {cs : List Value} {xs : List Int} {n : Nat} {many : Int} {mt : Tok} (hcp : @LT.lt Nat instLTNat c p) (hi : IntsAre cs xs) (hn : cs.length < 100) (hm : 0 < many) (hm1 : many < 1000) (hp0 : 0 ≤ pos) (hp1 : pos < 1000000) (hr : 0 ≤ res) :
    FP base h (penL p c e pos pt res rt cs n) → Spec w loose mean mg mb base 351 [.ref p, .int many mt] 2 h (penL p c e pos pt res rt cs n)
      (fun v nn => ∃ r t e' pos' pt' res' rt', v = .int r t ∧ 0 ≤ r ∧ r < many ∧ 0 ≤ pos' ∧ pos' ≤ pos + 1 ∧ 0 ≤ res' ∧ nn = penL p c e' pos' pt' res' rt' cs n) False := by
  intro fp
  ktr_enter
  dsimp only [penL] at N'
  k_steps
  all_goals try dsimp only
  all_goals try k_steps
  all_goals first
    | (exfalso; apply hnil; apply List.eq_nil_of_length_eq_zero; omega)
    | (refine leaveC (by k_asm) (by k_asm) fun kp nw => ?_
       first
       | exact ret _ _ _ _ kp (nw.sub (fun q hq => .tail _ (.tail _ hq))) ⟨_, _, _, _, _, _, _, rfl, Int.fmod_nonneg_of_pos _ hm, Int.fmod_lt_of_pos _ hm, by omega, by omega, hr, rfl⟩
       | exact ret _ _ _ _ kp (nw.sub (fun q hq => .tail _ hq)) ⟨_, _, _, _, _, _, _, rfl, Int.fmod_nonneg_of_pos _ hm, Int.fmod_lt_of_pos _ hm, by omega, by omega, by first | exact hr | exact Int.fdiv_nonneg hr (Int.le_of_lt hm) | exact Int.fdiv_nonneg (by omega) (Int.le_of_lt hm), rfl⟩)
end
theorem words_B3 : True := by
  k_with_none
  k_with "ktr_room" =>
    ((try simp only [depth_under_make, depth_under_kw, depth_in1, depth_deeper]); (try dsimp only [Ar]); omega)
  k_with "ktr_units" =>
    ((try simp only [units_in1, units_deeper, Around.mark_units]); (try dsimp only [Ar]); omega)
  k_with "ktr_enter" =>
    (
      intro frs dp un gd s R hs G hap hd hu ret err
      subst hs
      have X := G.X
      have T := G.T
      k_dflt (
        refine' enterP G _ ?k1 hap ?k3 ?k4 ?k5 ?k6 ?k8 ?k7 ?_ ?c2 ?c3 ?c4 ?c5
        (case k3 => k_is)
        (case k4 => k_is)
        (case k1 => assumption)
        (case k5 => omega)
        (case k6 => exact rfl)
        (case k8 => (refine' zr_of ?zra ?zrb; (case zra => (dsimp only [List.map_cons, List.map_nil]; try exact rfl)); (case zrb => first | exact zr1 | exact zr2 | exact zr3 | exact zr4 | exact zr5 | exact zr6 | exact zr7 | exact zr8)))
        (case k7 => exact locs rfl)
        (case c2 => exact rfl)
        (case c3 => exact rfl)
        (case c4 => exact rfl)
        (case c5 => decide)
        k_whole
        intro g' L' h' tk' gk' F' N' B' X' T'
        (try dsimp only)
        (try k_fold)))
  k_with "ktr_step" =>
    (
      intro frs dp un gd s R hs G hap hd hu ret err
      subst hs
      have X := G.X
      have T := G.T
      have Xs : (frag.heap_1 w.params).In s.heap := X.keeps G.st
      k_dflt (
        refine' enter G _ ?k1 hap ?k3 ?k4 ?k5 ?k6 ?k7 ?_ ?c2 ?c3 ?c4 ?c5
        (case k3 => k_is)
        (case k4 => k_is)
        (case k1 => assumption)
        (case k5 => omega)
        (case k6 => first | exact BindsTo.of_eq rfl | exact binds_K Xs rfl (by k_is) rfl rfl rfl)
        (case k7 => exact locs rfl)
        (case c2 => exact rfl)
        (case c3 => exact rfl)
        (case c4 => exact rfl)
        (case c5 => decide)
        k_whole
        intro g' L' h' gk' F' N' B' X' T'
        (try dsimp only)
        (try k_fold)))
  k_with "getMethod type:Exception" =>
    (k_here; refine' method_type ?F ?X ?m (by decide +kernel) ?e ?h ?_; (case F => k_asm); (case X => k_asm); (case m => exact exc_meta); (case e => k_dflt k_is); (case h => k_handed))
  k_with "call builtin:Exception.__init__" =>
    (k_dflt (refine' exc_init_k ?X ?F ?N ?_; (case X => assumption); (case F => k_asm); (case N => k_asm); k_whole; intro t1 h' F' N'))
  k_with "setAttr ref" =>
    (k_dflt (first | (refine' exc_set1_k ?X ?F ?N ?_; (case X => assumption); (case F => k_asm); (case N => k_asm); k_whole; intro d' k' h' tk' F' N') | (refine' exc_set2_k ?X ?F ?N ?_; (case X => assumption); (case F => k_asm); (case N => k_asm); k_whole; intro h' tk' F' N')))
  trivial
theorem exc_meta : typeOf (.type "Exception") = pure (.type "type") := by kernel_rfl
section
variable {w : World} {loose : List Str} {mean : ExcName → Option Value} {mg mb : Str → Option Value} {base : Heap}
abbrev excO (t₀ : Addr) (dd : Option Addr) : Obj := { cls := .ref 59, dict := dd, data := .fields #[.ref t₀, .none, .none, .none, .bool false, .none] }
theorem sub59 : subIn (frag.heap_1 w.params) (.ref 59) (.type "Exception") = some true := by k_is
theorem exc_inst {h : Heap} {e t₀ : Addr} (he : h.get? e = some (excO t₀ none)) : InstAt h e (excO t₀ none) 59 none := ⟨he, rfl, rfl, trivial⟩
theorem exc_check {A : Around} {E : Value → Shared → Prop} {s : Shared} {e t₀ : Addr} {rest : List Value} {Q : Unit → Shared → Prop}
    (X : (frag.heap_1 w.params).In s.heap) (he : s.heap.get? e = some (excO t₀ none)) (hq : Q () s) :
    wpAny (model prg w) A (checkBuiltinCall "Exception.__init__" ⟨.ref e :: rest, []⟩) Q E s := by
  have F := PySem.F.excBase_Exception
  have hshort := F.noStar
  simp only [checkBuiltinCall, F.initKind, F.initSplit, F.initRow]
  refine wpAny_bind (Looks.here (M := model prg w) (r := true) ((exc_inst he).type.andThen (looks_subIn X sub59)) ?_)
  simp only [Bool.not_true, Bool.false_eq_true, if_false]
  have h59 := X 59 _ (by k_dflt k_is)
  obtain ⟨h, g, d, tk, os⟩ := s
  repeat (first | with_reducible refine wpAny_loadPart_at he ?_ | with_reducible refine wpAny_loadPart_at h59 ?_ | refine wpAny_load h59 ?_ | wp_step)
  refine wpAny_onRaise ?_
  rw [show ∀ (a b : String) (n : Nat), Bind.check ⟨.positional, "*", "Exception", .self, [⟨"args", .varPos, false⟩]⟩ a b n (List.map (fun x => x.fst) ({ pos := Value.ref e :: rest } : Args).kw) = pure () from
    fun a b n => check_star_args _ _ _ _ _ _]
  exact wpAny_pure hq
theorem exc_init {A : Around} {E : Value → Shared → Prop} {s : Shared} {e t₀ : Addr} {x : Value} {Q : Value → Shared → Prop}
    (X : (frag.heap_1 w.params).In s.heap) (he : s.heap.get? e = some (excO t₀ none))
    (hq : ∀ t1 h', (∀ b o, s.heap.get? b = some o → b ≠ e → h'.get? b = some o) → h'.get? e = some (excO t1 none) → Q .none { s with heap := h' }) :
    wpAny (model prg w) A (call (.builtin "Exception.__init__") [.ref e, x]) Q E s := by
  have F := PySem.F.excBase_Exception
  refine wpAny_call (codeAny_call_builtin F.init.plain F.initEntry (exc_check X he ?_))
  obtain ⟨h, g, d, tk, os⟩ := s
  wp_walk
  show Q _ _
  refine hq h.objs.size _ (fun b o hb hne => ?_) ?_
  · rw [Heap.get?_update_other _ _ (Ne.symm hne)]
    exact Heap.get?_push_of_some _ hb
  · rw [Heap.get?_update_self _ (Heap.get?_push_of_some _ he) rfl]; rfl

theorem has59 : hasDictIn (frag.heap_1 w.params) 59 = true := by k_is
theorem set59 : findIn (frag.heap_1 w.params) (.ref 59) "__setattr__" = some (some (.builtin "object.__setattr__")) := by k_dflt k_is
theorem cls59 : ∃ cd, clsIn (frag.heap_1 w.params) 59 = some cd ∧ cd.mro = [.ref 59, .ref 46, .type "Exception", .type "BaseException", .type "object"] ∧ cd.hasDict = true := ⟨_, by k_dflt k_is, rfl, rfl⟩
theorem refuse_exc (self : Value) : refuseLoop self "__setattr__" [.type "Exception", .type "BaseException", .type "object"] = pure () := by kernel_rfl
theorem exc_osa {A : Around} {s : Shared} {e t₀ : Addr} {dd : Option Addr} {od : Option Obj} {name : Str} {tk : Tok} {v : Value} {R : Result → Shared → Prop}
    (X : (frag.heap_1 w.params).In s.heap) (I : InstAt s.heap e (excO t₀ dd) 59 od) (hf : findIn (frag.heap_1 w.params) (.ref 59) name = some none)
    (h : wpAny (model prg w) A.in1 (Builtin.ObjectAttr.storeInOwnDict (.ref e) (.ref 59) (.str name tk) name v false)
      (fun fin s' => match fin with | .done f => R (.ok f) s' | .again c' => c'.quiet = true ∧ codeAny (model prg w) A c' R s') (fun e s' => R (.error e) s') s) :
    codeAny (model prg w) A (.call (.builtin "object.__setattr__") ⟨[.ref e, .str name tk, v], []⟩) R s := by
  have SF := PySem.F.store_object
  obtain ⟨cd, hc, hm, hd⟩ := cls59 (w := w)
  have sub : Looks (model prg w) s.heap (isInstance (.ref e) (.type "object")) true := I.type.andThen (looks_mroIn X (by unfold mroIn; rw [hc, Option.bind_some, hm]; rfl))
  refine codeAny_call_builtin SF.slot.plain SF.entry (@check_slot (model prg w) _ _ s "object.__setattr__" "object" "__setattr__" (.ref e) [.str name tk, v] [] _ SF.kind SF.split sub (SF.args (.ref e) (.str name tk) v) ?_)
  have hmro : Looks (model prg w) s.heap (mroOf (.ref 59)) cd.mro := (looks_clsIn X hc).andThen .now
  rw [osa_eq, refuse_eq]
  refine wpAny_bind (wpAny_bind (I.type.here (wpAny_bind (hmro.here ?_))))
  rw [hm, refuseLoop_ref, refuseLoop_ref, refuse_exc]
  exact wpAny_pure (wpAny_bind (I.type.here (wpAny_bind ((looks_findIn X hf).here (wpAny_bind (wpAny_pure h))))))
open Builtin.ObjectAttr in
theorem sid {A : Around} {E : Value → Shared → Prop} {s : Shared} {d : Addr} {name : Str} {tk : Tok} {v : Value} {es : List DictEntry} {n : Nat} {Q : PySem.Fin → Shared → Prop}
    (hd : s.heap.get? d = some (dictOf es n)) (hl : (getL name es).isSome = true) (hz : es.length ≤ 1000)
    (h : ∀ h' tk', h' = s.heap.update d (Obj.putName name (PyData.keyHash w.params name) (.str name s.toks) v) → h'.get? d = some (dictOf (putL name (PyData.keyHash w.params name) (.str name s.toks) v es) (putN name es n)) → Q (.done (.ret .none)) { s with heap := h', toks := tk' }) :
    wpAny (model prg w) A (storeInDict d (.str name tk) name v) Q E s := by
  have D' : (s.heap.update d (Obj.putName name (PyData.keyHash w.params name) (.str name s.toks) v)).get? d = some (dictOf (putL name (PyData.keyHash w.params name) (.str name s.toks) v es) (putN name es n)) := by
    rw [← putName_dict]
    exact Heap.get?_update_self _ hd (by rw [putName_dict]; rfl)
  have hlen : ∀ es : List DictEntry, (putL name (PyData.keyHash w.params name) (.str name s.toks) v es).length ≤ es.length + 1 := by
    intro es
    induction es with
    | nil => simp [putL]
    | cons a r ih =>
      simp only [putL]
      split
      · simp
      · simp only [List.length_cons]; omega
  unfold storeInDict newKeyGuard
  refine wpAny_bind (wpAny_pure (wpAny_bind ?_))
  unfold nsSet
  refine wpAny_bind (wpAny_bind (wpAny_askSetting (wpAny_pure (wpAny_bind (wpAny_mkText (wpAny_bind (wpAny_loadPart hd ?_)))))))
  dsimp only
  have hl' : (lookIn name (dictOf es n)).isSome = true := by rw [lookIn_dict]; exact hl
  have c : (!es.toArray.any (·.key.isStr name) && es.toArray.any (·.refKey)) = false := by
    rw [List.any_toArray, List.any_toArray]
    unfold getL at hl
    split at hl
    · rename_i en he
      rw [List.any_eq_true.mpr ⟨en, List.mem_of_find?_eq_some he, List.find?_some he⟩]; rfl
    · split at hl
      · cases hl
      · rename_i z; rw [Bool.not_eq_true] at z; rw [z, Bool.and_false]
  rw [aRefKeyMayBeTheName_at, c]
  refine wpAny_updatePart hd ?_
  refine wpAny_bind (wpAny_lookBehind D' (pastItsLine_dict (by rw [List.size_toArray, sizeLine_eq]; have := hlen es; omega)) ?_)
  exact wpAny_pure (h _ _ rfl D')
open Builtin.ObjectAttr in
theorem exc_set1 {A : Around} {E : Value → Shared → Prop} {s : Shared} {e t₀ : Addr} {name : Str} {v : Value} {Q : Unit → Shared → Prop}
    (X : (frag.heap_1 w.params).In s.heap) (he : s.heap.get? e = some (excO t₀ none)) (hf : findIn (frag.heap_1 w.params) (.ref 59) name = some none)
    (hq : ∀ d k h' tk', (∀ b o, s.heap.get? b = some o → b ≠ e → h'.get? b = some o) → h'.get? e = some (excO t₀ (some d)) → h'.get? d = some (dictOf [⟨PyData.keyHash w.params name, .str name k, v⟩] 1) → s.heap.get? d = none → Q () { s with heap := h', toks := tk' }) :
    wpAny (model prg w) A (setAttr (.ref e) name v) Q E s := by
  have I := exc_inst he
  refine set_plain X I set59 (exc_osa (s := { s with toks := s.toks + 1 }) X I hf ?_)
  have h59 := X 59 _ (by k_dflt k_is)
  obtain ⟨h, g, d, tk, os⟩ := s
  dsimp only at *
  have hne : h.objs.size ≠ e := Nat.ne_of_gt (Heap.lt_size he)
  unfold storeInOwnDict ownDictForStores instanceDict
  repeat (first | (with_reducible refine sid (es := []) (n := 0) ?hd ?hl ?hz ?_) | with_reducible refine wpAny_loadPart_at he ?_ | with_reducible refine wpAny_loadPart_at h59 ?_ | refine wpAny_load h59 ?_ | wp_step)
  case hd => exact (Heap.get?_update_other _ _ (Ne.symm hne)).trans (Heap.get?_push_size _ rfl)
  case hl => rfl
  case hz => exact Nat.zero_le _
  intro h' tk' hh hg
  subst hh
  refine hq h.objs.size _ _ _ (fun b o hb hne' => ?_) ?_ hg ?_
  · rw [Heap.get?_update_other _ _ (Nat.ne_of_gt (Heap.lt_size hb)), Heap.get?_update_other _ _ (Ne.symm hne')]
    exact Heap.get?_push_of_some _ hb
  · dsimp only
    rw [Heap.get?_update_other _ _ hne]
    rw [Heap.get?_update_self _ (Heap.get?_push_of_some _ he) rfl]
  · exact Heap.get?_none_of_le (Nat.le_refl _)
open Builtin.ObjectAttr in
theorem exc_set2 {A : Around} {E : Value → Shared → Prop} {s : Shared} {e t₀ d : Addr} {es : List DictEntry} {n : Nat} {name : Str} {v : Value} {Q : Unit → Shared → Prop}
    (X : (frag.heap_1 w.params).In s.heap) (he : s.heap.get? e = some (excO t₀ (some d))) (hd : s.heap.get? d = some (dictOf es n)) (hne : d ≠ e) (hl : (getL name es).isSome = true) (hz : es.length ≤ 1000) (hf : findIn (frag.heap_1 w.params) (.ref 59) name = some none)
    (hq : ∀ h' tk', (∀ b o, s.heap.get? b = some o → b ≠ d → h'.get? b = some o) → Q () { s with heap := h', toks := tk' }) :
    wpAny (model prg w) A (setAttr (.ref e) name v) Q E s := by
  have I : InstAt s.heap e (excO t₀ (some d)) 59 (some (dictOf es n)) := ⟨he, rfl, rfl, hd⟩
  refine set_plain X I set59 (exc_osa (s := { s with toks := s.toks + 1 }) X I hf ?_)
  have h59 := X 59 _ (by k_dflt k_is)
  obtain ⟨h, g, dr, tk, os⟩ := s
  dsimp only at *
  unfold storeInOwnDict ownDictForStores instanceDict
  repeat (first | (with_reducible refine sid (es := es) (n := n) hd hl hz ?_) | with_reducible refine wpAny_loadPart_at he ?_ | with_reducible refine wpAny_loadPart_at h59 ?_ | refine wpAny_load h59 ?_ | wp_step)
  intro h' tk' hh hg
  subst hh
  exact hq _ _ (fun b o hb hne' => by rw [Heap.get?_update_other _ _ (Ne.symm hne')]; exact hb)
theorem f59w : findIn (frag.heap_1 w.params) (.ref 59) "what" = some none := by k_dflt k_is
theorem f59a : findIn (frag.heap_1 w.params) (.ref 59) "at" = some none := by k_dflt k_is

theorem exc_led1 {g h h' : Heap} {L e : Addr} {m : Str → Option Value} {o o' : Obj} (F : Fr g L h m) (N : News g L h [(e, o)]) (hk : ∀ b o, h.get? b = some o → b ≠ e → h'.get? b = some o) (he : h'.get? e = some o') : Fr g L h' m ∧ News g L h' [(e, o')] := by
  have n := N _ (.head _)
  obtain ⟨oL, es, ep, hL, r⟩ := F.ns
  refine ⟨⟨⟨oL, es, ep, hk _ _ hL (Ne.symm n.2.1), r⟩, fun b o q => hk _ _ (F.keep _ _ q) (fun z => ?_), F.above⟩, fun p hp => ?_⟩
  · subst z; rw [n.2.2] at q; cases q
  · rw [List.mem_singleton.mp hp]; exact ⟨he, n.2⟩
theorem exc_init_k {A : Around} {E : Value → Shared → Prop} {s : Shared} {g : Heap} {L e t₀ : Addr} {m : Str → Option Value} {x : Value} {Q : Value → Shared → Prop}
    (X : (frag.heap_1 w.params).In g) (F : Fr g L s.heap m) (N : News g L s.heap [(e, excO t₀ none)])
    (hq : ∀ t1 h', Fr g L h' m → News g L h' [(e, excO t1 none)] → Q .none { s with heap := h' }) :
    wpAny (model prg w) A (call (.builtin "Exception.__init__") [.ref e, x]) Q E s :=
  exc_init (X.keeps F.keep) (N _ (.head _)).1 fun t1 h' hk he => have z := exc_led1 F N hk he; hq t1 h' z.1 z.2
theorem exc_set1_k {A : Around} {E : Value → Shared → Prop} {s : Shared} {g : Heap} {L e t₀ : Addr} {m : Str → Option Value} {v : Value} {Q : Unit → Shared → Prop}
    (X : (frag.heap_1 w.params).In g) (F : Fr g L s.heap m) (N : News g L s.heap [(e, excO t₀ none)])
    (hq : ∀ d k h' tk', Fr g L h' m → News g L h' [(e, excO t₀ (some d)), (d, dictOf [⟨PyData.keyHash w.params "what", .str "what" k, v⟩] 1)] → Q () { s with heap := h', toks := tk' }) :
    wpAny (model prg w) A (setAttr (.ref e) "what" v) Q E s := by
  refine exc_set1 (X.keeps F.keep) (N _ (.head _)).1 f59w fun d k h' tk' hk he hd hn => ?_
  have z := exc_led1 F N hk he
  refine hq d k h' tk' z.1 fun p hp => ?_
  rcases List.mem_cons.mp hp with rfl | hp
  · exact z.2 _ (.head _)
  · rw [List.mem_singleton.mp hp]
    obtain ⟨oL, es, ep, hL, r⟩ := F.ns
    refine ⟨hd, fun q => ?_, ?_⟩
    · dsimp only at q; rw [q, hL] at hn; cases hn
    · dsimp only
      cases q : g.get? d with
      | none => rfl
      | some o => rw [F.keep _ _ q] at hn; cases hn
theorem exc_set2_k {A : Around} {E : Value → Shared → Prop} {s : Shared} {g : Heap} {L e t₀ d : Addr} {k : Tok} {m : Str → Option Value} {u v : Value} {Q : Unit → Shared → Prop}
    (X : (frag.heap_1 w.params).In g) (F : Fr g L s.heap m) (N : News g L s.heap [(e, excO t₀ (some d)), (d, dictOf [⟨PyData.keyHash w.params "what", .str "what" k, u⟩] 1)])
    (hq : ∀ h' tk', Fr g L h' m → News g L h' [(e, excO t₀ (some d))] → Q () { s with heap := h', toks := tk' }) :
    wpAny (model prg w) A (setAttr (.ref e) "at" v) Q E s := by
  have n1 := N _ (.head _)
  have n2 := N _ (.tail _ (.head _))
  dsimp only at n1 n2
  have hne : d ≠ e := fun q => by rw [q, n1.1] at n2; cases n2.1
  refine exc_set2 (X.keeps F.keep) n1.1 n2.1 hne rfl (by simp) f59a fun h' tk' hk => ?_
  obtain ⟨oL, es, ep, hL, r⟩ := F.ns
  refine hq h' tk' ⟨⟨oL, es, ep, hk _ _ hL (Ne.symm n2.2.1), r⟩, fun b o q => hk _ _ (F.keep _ _ q) (fun z => ?_), F.above⟩ fun p hp => ?_
  · subst z; rw [n2.2.2] at q; cases q
  · rw [List.mem_singleton.mp hp]; exact ⟨hk _ _ n1.1 (Ne.symm hne), n1.2⟩
theorem excInit {h : Heap} {x : Str} {t : Tok} {e t₀ : Addr} (fp : FP base h [(e, excO t₀ none)]) :
    Spec w loose mean mg mb base 36 [.ref e, .str x t] 2 h [(e, excO t₀ none)] (fun v n => v = .none ∧ ∃ t1 d, n = [(e, excO t1 (some d))]) False := by
  ktr_step
  k_steps
  refine leaveC (by k_asm) (by k_asm) fun kp nw => ret _ _ _ _ kp nw ⟨rfl, _, _, rfl⟩
end
theorem words_B4 : True := by
  k_with_none
  k_with "ktr_room" =>
    ((try simp only [depth_under_make, depth_under_kw, depth_in1, depth_deeper]); (try dsimp only [Ar]); omega)
  k_with "ktr_units" =>
    ((try simp only [units_in1, units_deeper, Around.mark_units]); (try dsimp only [Ar]); omega)
  k_with "ktr_enter" =>
    (
      intro frs dp un gd s R hs G hap hd hu ret err
      subst hs
      have X := G.X
      have T := G.T
      k_dflt (
        refine' enterP G _ ?k1 hap ?k3 ?k4 ?k5 ?k6 ?k8 ?k7 ?_ ?c2 ?c3 ?c4 ?c5
        (case k3 => k_is)
        (case k4 => k_is)
        (case k1 => assumption)
        (case k5 => omega)
        (case k6 => exact rfl)
        (case k8 => (refine' zr_of ?zra ?zrb; (case zra => (dsimp only [List.map_cons, List.map_nil]; try exact rfl)); (case zrb => first | exact zr1 | exact zr2 | exact zr3 | exact zr4 | exact zr5 | exact zr6 | exact zr7 | exact zr8)))
        (case k7 => exact locs rfl)
        (case c2 => exact rfl)
        (case c3 => exact rfl)
        (case c4 => exact rfl)
        (case c5 => decide)
        k_whole
        intro g' L' h' tk' gk' F' N' B' X' T'
        (try dsimp only)
        (try k_fold)))
  k_with "ktr_step" =>
    (
      intro frs dp un gd s R hs G hap hd hu ret err
      subst hs
      have X := G.X
      have T := G.T
      have Xs : (frag.heap_1 w.params).In s.heap := X.keeps G.st
      k_dflt (
        refine' enter G _ ?k1 hap ?k3 ?k4 ?k5 ?k6 ?k7 ?_ ?c2 ?c3 ?c4 ?c5
        (case k3 => k_is)
        (case k4 => k_is)
        (case k1 => assumption)
        (case k5 => omega)
        (case k6 => first | exact BindsTo.of_eq rfl | exact binds_K Xs rfl (by k_is) rfl rfl rfl)
        (case k7 => exact locs rfl)
        (case c2 => exact rfl)
        (case c3 => exact rfl)
        (case c4 => exact rfl)
        (case c5 => decide)
        k_whole
        intro g' L' h' gk' F' N' B' X' T'
        (try dsimp only)
        (try k_fold)))
  trivial
section
variable {w : World} {loose : List Str} {mean : ExcName → Option Value} {mg mb : Str → Option Value} {base : Heap}
abbrev exBm : List Value := [.ref 46, .type "Exception", .type "BaseException", .type "object"]
theorem cls59o {h : Heap} (X : (frag.heap_1 w.params).In h) : ∃ nm q bs sn sub ab col dd k0 k1 k2 k3 k5, h.get? 59 = some (excClassObj nm q 59 58 bs exBm true sn sub ab col dd k0 k1 k2 k3 k5 "Exception.__new__") :=
  ⟨_, _, _, _, _, _, _, _, _, _, _, _, _, X 59 _ (by k_dflt k_is)⟩
section
variable {M : Model} {A : Around} {E : Value → Shared → Prop} {h : Heap} {g : Array GenState} {d : Drawn} {t : Nat} {os : OsState} {nm q : Str} {bs : List Value} {sn : List Str} {sub : List Value} {ab : Bool} {col : Option Bool} {dd : Option Addr} {k0 k1 k2 k3 k5 : Option Value}
theorem ge_check_new {rest : List Value} {Q : Unit → Shared → Prop} (hC : h.get? 59 = some (excClassObj nm q 59 58 bs exBm true sn sub ab col dd k0 k1 k2 k3 k5 "Exception.__new__"))
    (hq : Q () ⟨h, g, d, t, os⟩) : wpAny M A (checkBuiltinCall "Exception.__new__" ⟨.ref 59 :: rest, []⟩) Q E ⟨h, g, d, t, os⟩ := by
  have F := PySem.F.excBase_Exception
  have hcont : (Value.ref 59 :: exBm).contains (.type "Exception") = true := by decide
  have hstar := F.noStar
  simp only [checkBuiltinCall, F.newKind, F.newSplit, F.newRow]
  repeat (first | refine wpAny_loadPart_at hC ?_ | (refine wpAny_isSubtype_exc hC ?_; rw [hcont]) | refine wpAny_staticBase_exc hC ?_ | refine wpAny_madeBy_exc hC ?_ | simp only [bne_self_eq_false, Bool.false_eq_true, if_false] | wp_step)
  exact hq
end
section
variable {A : Around} {E : Value → Shared → Prop} {h : Heap} {g : Array GenState} {d : Drawn} {t : Nat} {os : OsState} {nm q : Str} {bs : List Value} {sn : List Str} {sub : List Value} {ab : Bool} {col : Option Bool} {dd : Option Addr} {k0 k1 k2 k3 k5 : Option Value}
theorem ge_new {R : Result → Shared → Prop} {rest : List Value} (hC : h.get? 59 = some (excClassObj nm q 59 58 bs exBm true sn sub ab col dd k0 k1 k2 k3 k5 "Exception.__new__"))
    (hq : R (.ok (.ret (.ref (h.objs.size + 1)))) ⟨(h.push { cls := .type "tuple", data := .seq rest.toArray }).push (excO h.objs.size none), g, d, t, os⟩) (hrest : rest.length ≤ sizeLine) :
    codeAny (model prg w) A (.builtin "Exception.__new__" ⟨.ref 59 :: rest, []⟩) R ⟨h, g, d, t, os⟩ := by
  have F := PySem.F.excBase_Exception
  have hends := F.ends
  have hcB : (Value.ref 59 :: exBm).contains (.type "Exception") = true := by decide
  have hcA : (Value.ref 59 :: exBm).contains (.type "AttributeError") = false := by decide
  have hcN : (Value.ref 59 :: exBm).contains (.type "NameError") = false := by decide
  refine codeAny_builtinAt F.entry ?_
  unfold Builtin.«BaseException.__new__»
  refine PySem.wpAt_bind ?_
  show PySem.wpAt _ _ _ (stack >>= _) _ _ _
  refine PySem.wpAt_bind (PySem.wpAt_stack fun p below => PySem.wpAt_of_wpAny ?_)
  wp_walk
  refine PySem.wpAt_of_wpAny ?_
  rw [F.owner]
  repeat (first | with_reducible refine wpAny_madeHere_exc F.canon hC ?_ | with_reducible refine wpAny_loadPart_at hC ?_ | (with_reducible refine wpAny_isSubtype_exc hC ?_; first | rw [hcB] | rw [hcA] | rw [hcN]) | wp_step)
  show R _ _
  rw [Heap.size_push]
  exact hq

theorem init59 : findIn (frag.heap_1 w.params) (.ref 59) "__init__" = some (some (.ref 36)) := by k_dflt k_is
theorem fn36 : typeIn (frag.heap_1 w.params) (.ref 36) = some (.type "function") := by k_is
theorem ge_type_call {frs : List Env} {dp un : Nat} {gd : Option (List Code)} {x : Str} {tx : Tok} {PF : PySem.Fin → Shared → Prop} {PE : Value → Shared → Prop}
    (G : Gd w loose mean mg mb base h frs) (hd : dp + 2 < recursionLimit) (hu : un + 8 * 2 < cLine)
    (hq : ∀ h' e t₀ dd' tk', Kp [] h h' → h.get? e = none → h'.get? e = some (excO t₀ (some dd')) → PF (.done (.ret (.ref e))) ⟨h', g, d, tk', os⟩) :
    wpAny (model prg w) (Ar dp un gd frs) (Builtin.«type.__call__» ⟨[.ref 59, .str x tx], []⟩) PF PE ⟨h, g, d, t, os⟩ := by
  have F := PySem.F.excBase_Exception
  have X : (frag.heap_1 w.params).In h := G.X.keeps G.st
  obtain ⟨nm, q, bs, sn, sub, ab, col, dd, k0, k1, k2, k3, k5, hC⟩ := cls59o X
  repeat (first | with_reducible refine wpAny_loadPart_at hC ?_ | with_reducible refine wpAny_madeBy_exc hC ?_ | wp_step)
  refine codeAny_call_builtin_code (Code.quiet_builtin _ F.quiet) (ge_check_new hC ?_)
  refine ge_new hC ?_ (by simp [sizeLine_eq])
  show wpAny _ _ _ _ _ _
  have kp : ∀ b o, h.get? b = some o → ((h.push { cls := .type "tuple", data := .seq [Value.str x tx].toArray }).push (excO h.objs.size none)).get? b = some o := fun b o e => Heap.get?_push_of_some _ (Heap.get?_push_of_some _ e)
  have X₁ := X.keeps kp
  have hC₁ := kp _ _ hC
  have hget : ((h.push { cls := .type "tuple", data := .seq [Value.str x tx].toArray }).push (excO h.objs.size none)).get? (h.objs.size + 1) = some (excO h.objs.size none) := by heap_get
  have hcC : (Value.ref 59 :: exBm).contains (.ref 59) = true := by decide
  unfold isInstance
  repeat (first | with_reducible refine wpAny_loadPart_at hget ?_ | (with_reducible refine wpAny_isSubtype_exc hC₁ ?_; rw [hcC]) | wp_step)
  refine (looks_findIn X₁ init59).here ?_
  refine wpAny_holding (wpAny_bind ((bind_fn X₁ _ fn36).here ?_))
  have he0 : h.get? (h.objs.size + 1) = none := Heap.get?_none_of_le (by omega)
  have eb : base.get? (h.objs.size + 1) = none := by
    cases q : base.get? (h.objs.size + 1) with
    | none => rfl
    | some o => have z := G.st _ _ q; rw [he0] at z; cases z
  have off : Off frs [(h.objs.size + 1, excO h.objs.size none)] := fun env he p hp hf => by
    rw [List.mem_singleton.mp hp] at hf
    obtain ⟨_, o, ho, _⟩ := G.fr.mem (List.mem_filterMap.mpr ⟨env, he, hf⟩)
    rw [he0] at ho; cases ho
  have Sp := excInit (w := w) (loose := loose) (mean := mean) (mg := mg) (mb := mb) (base := base) (h := (h.push { cls := .type "tuple", data := .seq [Value.str x tx].toArray }).push (excO h.objs.size none)) (x := x) (t := tx) (e := h.objs.size + 1) (t₀ := h.objs.size) (fun p hp => by rw [List.mem_singleton.mp hp]; exact ⟨hget, eb⟩)
  refine wpAny_bind (wpAny_call (Sp frs dp un gd _ _ rfl ⟨G.X, G.T, fun b o e => kp _ _ (G.st b o e), G.fr.of_keeps fun b o e _ => ⟨o, kp _ _ e, rfl⟩⟩ off hd hu (fun v h' tk' news' kp' nw po => ?_) (fun f => f.elim)))
  obtain ⟨rfl, t1, dx, rfl⟩ := po
  have hk : Kp [] h h' := fun b o e _ => kp' b o (kp _ _ e) (fun q => by rw [List.mem_singleton.mp q, he0] at e; cases e)
  repeat wp_step
  exact hq _ _ t1 dx _ hk he0 (nw _ (.head _)).1
theorem call_ge {frs : List Env} {dp un : Nat} {gd : Option (List Code)} {x : Str} {tx : Tok} {Q E : Value → Shared → Prop} {s : Shared}
    (G : Gd w loose mean mg mb base s.heap frs) (hd : dp + 3 < recursionLimit) (hu : un + 8 * 3 < cLine)
    (hq : ∀ h' e t₀ dd' tk', Kp [] s.heap h' → s.heap.get? e = none → h'.get? e = some (excO t₀ (some dd')) → Q (.ref e) { s with heap := h', toks := tk' }) :
    wpAny (model prg w) (Ar dp un gd frs) (call (.ref 59) [.str x tx]) Q E s := by
  have X : (frag.heap_1 w.params).In s.heap := G.X.keeps G.st
  obtain ⟨h, g, d, tk, os⟩ := s
  obtain ⟨nm, q, bs, sn, sub, ab, col, dd, k0, k1, k2, k3, k5, hC⟩ := cls59o X
  have f1 := tc_lookup
  have f2 := tc_bind (.ref 59)
  have hT : (⟨h, g, d, tk, os⟩ : Shared).TypeIs (.ref 59) "type" := ⟨_, hC, rfl⟩
  refine wpAny_call (codeAny_of_tree ?_)
  show wpAny _ _ (callAny (.ref 59) _) _ _ _
  repeat (any_goals (first | assumption | with_reducible refine wpAny_loadPart_at hC ?_ | wp_step))
  refine ⟨rfl, ?_⟩
  refine codeAny_call_builtin_at (Code.quiet_builtin _ (by decide +kernel)) entry_typeCall (wpAny_check_type_call_sub hC ?_)
  have hA : (Ar dp un gd frs).under (Code.builtin "type.__call__" { pos := [Value.ref 59] ++ [Value.str x tx] }) = Ar (dp + 1) (un + 1) gd frs := by
    rfl
  rw [hA]
  exact ge_type_call G (by omega) (by omega) hq
end
end
theorem words_B5 : True := by
  k_with_none
  k_with "ktr_room" =>
    ((try simp only [depth_under_make, depth_under_kw, depth_in1, depth_deeper]); (try dsimp only [Ar]); omega)
  k_with "ktr_units" =>
    ((try simp only [units_in1, units_deeper, Around.mark_units]); (try dsimp only [Ar]); omega)
  k_with "ktr_enter" =>
    (
      intro frs dp un gd s R hs G hap hd hu ret err
      subst hs
      have X := G.X
      have T := G.T
      k_dflt (
        refine' enterP G _ ?k1 hap ?k3 ?k4 ?k5 ?k6 ?k8 ?k7 ?_ ?c2 ?c3 ?c4 ?c5
        (case k3 => k_is)
        (case k4 => k_is)
        (case k1 => assumption)
        (case k5 => omega)
        (case k6 => exact rfl)
        (case k8 => (refine' zr_of ?zra ?zrb; (case zra => (dsimp only [List.map_cons, List.map_nil]; try exact rfl)); (case zrb => first | exact zr1 | exact zr2 | exact zr3 | exact zr4 | exact zr5 | exact zr6 | exact zr7 | exact zr8)))
        (case k7 => exact locs rfl)
        (case c2 => exact rfl)
        (case c3 => exact rfl)
        (case c4 => exact rfl)
        (case c5 => decide)
        k_whole
        intro g' L' h' tk' gk' F' N' B' X' T'
        (try dsimp only)
        (try k_fold)))
  k_with "ktr_step" =>
    (
      intro frs dp un gd s R hs G hap hd hu ret err
      subst hs
      have X := G.X
      have T := G.T
      have Xs : (frag.heap_1 w.params).In s.heap := X.keeps G.st
      k_dflt (
        refine' enter G _ ?k1 hap ?k3 ?k4 ?k5 ?k6 ?k7 ?_ ?c2 ?c3 ?c4 ?c5
        (case k3 => k_is)
        (case k4 => k_is)
        (case k1 => assumption)
        (case k5 => omega)
        (case k6 => first | exact BindsTo.of_eq rfl | exact binds_K Xs rfl (by k_is) rfl rfl rfl)
        (case k7 => exact locs rfl)
        (case c2 => exact rfl)
        (case c3 => exact rfl)
        (case c4 => exact rfl)
        (case c5 => decide)
        k_whole
        intro g' L' h' gk' F' N' B' X' T'
        (try dsimp only)
        (try k_fold)))
  trivial
section
variable {w : World} {loose : List Str} {mean : ExcName → Option Value} {mg mb : Str → Option Value} {base : Heap}

theorem stays_to {s₀ g h₂ : Heap} {fpo : List (Addr × Obj)} {L : Addr} {m : Str → Option Value} (gk : ∀ b o, s₀.get? b = some o → b ∉ adr fpo → g.get? b = some o) (fp0 : ∀ p ∈ fpo, s₀.get? p.1 = some p.2) (F : Fr g L h₂ m) (N : News g L h₂ fpo) :
    ∀ b o, s₀.get? b = some o → h₂.get? b = some o ∧ b ≠ L := fun b o e => by
  by_cases q : b ∈ adr fpo
  · obtain ⟨p, hp, rfl⟩ := List.mem_map.mp q
    have := fp0 p hp
    rw [e] at this; cases this
    exact ⟨(N p hp).1, (N p hp).2.1⟩
  · exact ⟨F.keep _ _ (gk _ _ e q), Nat.ne_of_lt (Nat.lt_of_lt_of_le (Heap.lt_size (gk _ _ e q)) F.above)⟩

theorem raise_out {M : Model} {frs : List Env} {dp un : Nat} {gd : Option (List Code)} {s₀ g h₂ : Heap} {fpo : List (Addr × Obj)} {s' : Shared} {L a e t₀ : Addr} {dd : Option Addr} {m : Str → Option Value} {name : Str} {scope : Scope} {cd : Value} {Q : Unit → Shared → Prop} {E : Value → Shared → Prop}
    (gk : ∀ b o, s₀.get? b = some o → b ∉ adr fpo → g.get? b = some o) (fp0 : ∀ p ∈ fpo, s₀.get? p.1 = some p.2) (B : Below (Ar dp un gd frs) base frs g) (F : Fr g L h₂ m) (N : News g L h₂ fpo)
    (hk : Kp [] h₂ s'.heap) (he0 : h₂.get? e = none) (he : s'.heap.get? e = some (excO t₀ dd)) (hkind : scope.kind = .function)
    (err : ∀ h', Fly s₀ frs e h' → Q () { s' with heap := h' }) :
    wpAny M ((Ar dp un gd frs).deeper (envOf name scope L a cd)) (leaving (envOf name scope L a cd) (.ref e)) Q E s' := by
  have B' := B.push (name := name) (scope := scope) (a := a) (cd := cd) F hkind
  have hk' : ∀ b o, h₂.get? b = some o → s'.heap.get? b = some o := fun b o q => hk b o q (fun z => nomatch z)
  have ff := B'.frames
  have hB : h₂.FunFrames (hideAll h₂ ((envOf name scope L a cd :: frs).filterMap (·.frame))) (envOf name scope L a cd :: frs) := funFrames_hide ff fun env he b hb => List.mem_filterMap.mpr ⟨env, he, hb⟩
  have st := stays_to gk fp0 F N
  refine wpAny_leaving_firstW (a0 := .ref t₀) (base := hideAll h₂ ((envOf name scope L a cd :: frs).filterMap (·.frame))) (outer := frs) (L := L) rfl (hB.of_keeps fun b o q _ => ⟨o, hk' b o q, rfl⟩) rfl he (fun b o q => hk' _ _ (of_hideAll _ q)) ?_ rfl rfl rfl fun h' hL => ?_
  · cases q : (hideAll h₂ ((envOf name scope L a cd :: frs).filterMap (·.frame))).get? e with
    | none => rfl
    | some o => rw [of_hideAll _ q] at he0; cases he0
  · obtain ⟨k1, ⟨_, _, k2⟩, k3, k4⟩ := hL
    refine err h' ⟨⟨hideAll h₂ ((envOf name scope L a cd :: frs).filterMap (·.frame)), .ref t₀, fun b o q hb => ?_, k1, ?_, k2, k3⟩, ?_⟩
    · refine hideAll_get _ (st b o q).1 fun z => ?_
      rw [List.filterMap_cons] at z
      rcases List.mem_cons.mp z with z | z
      · exact (st b o q).2 z
      · exact hb z
    · cases q : (hideAll h₂ ((envOf name scope L a cd :: frs).filterMap (·.frame))).get? e with
      | none => rfl
      | some o => rw [of_hideAll _ q] at he0; cases he0
    · exact (Heap.UpToSlots.of_keeps fun b o q => hk' _ _ (st b o q).1).trans k4

theorem pass_out {M : Model} {frs : List Env} {dp un : Nat} {gd : Option (List Code)} {s₀ g h₂ : Heap} {fpo : List (Addr × Obj)} {s' : Shared} {L a e : Addr} {m : Str → Option Value} {name : Str} {scope : Scope} {cd : Value} {Q : Unit → Shared → Prop} {E : Value → Shared → Prop}
    (gk : ∀ b o, s₀.get? b = some o → b ∉ adr fpo → g.get? b = some o) (fp0 : ∀ p ∈ fpo, s₀.get? p.1 = some p.2) (F : Fr g L h₂ m) (N : News g L h₂ fpo)
    (fl : Fly h₂ (envOf name scope L a cd :: frs) e s'.heap)
    (err : ∀ h', Fly s₀ frs e h' → Q () { s' with heap := h' }) :
    wpAny M ((Ar dp un gd frs).deeper (envOf name scope L a cd)) (leaving (envOf name scope L a cd) (.ref e)) Q E s' := by
  obtain ⟨⟨B, a0, hB, hf⟩, hu⟩ := fl
  have st := stays_to gk fp0 F N
  refine wpAny_leaves_onW (outer := frs) (L := L) rfl rfl hf fun h' hf' hu' => err h' ⟨⟨B, a0, fun b o q hb => hB b o (st b o q).1 fun z => ?_, hf'⟩, ((Heap.UpToSlots.of_keeps fun b o q => (st b o q).1).trans hu).trans hu'⟩
  rw [List.filterMap_cons] at z
  rcases List.mem_cons.mp z with z | z
  · exact (st b o q).2 z
  · exact hb z

/-- the raise of the program's own exception with one text -/
noncomputable def GeEnd (g : Heap) (L : Addr) (E : Value → Shared → Prop) (vs : List Value) (s : Shared) : Prop :=
  ∃ x t m, vs = [.str x t] ∧ Fr g L s.heap m ∧ ∀ h' e t₀ dd tk', Kp [] s.heap h' → s.heap.get? e = none → h'.get? e = some (excO t₀ dd) → E (.ref e) { s with heap := h', toks := tk' }
theorem geEnd {g : Heap} {L : Addr} {E : Value → Shared → Prop} {x : Str} {t : Tok} {s : Shared} {m : Str → Option Value} (F : Fr g L s.heap m)
    (h : ∀ h' e t₀ dd tk', Kp [] s.heap h' → s.heap.get? e = none → h'.get? e = some (excO t₀ dd) → E (.ref e) { s with heap := h', toks := tk' }) : GeEnd g L E [.str x t] s := ⟨x, t, m, rfl, F, h⟩
theorem Raise_ge {frs : List Env} {dp un : Nat} {gd : Option (List Code)} {g : Heap} {s : Shared} {L a : Addr} {m : Str → Option Value} {name : Str} {scope : Scope} {cd : Value} {np cpos pos : Pos} {e₀ : PySem.Expr} {Q : Flow → Shared → Prop} {E : Value → Shared → Prop}
    (X : (frag.heap_1 w.params).In base) (T : Top view loose mean mg mb base) (B : Below (Ar dp un gd frs) base frs g) (F : Fr g L s.heap m) (X' : (frag.heap_1 w.params).In g) (T' : Top view loose mean mg mb g)
    (hd : dp + 4 < recursionLimit) (hu : un + 8 * 4 < cLine)
    (hk : scope.kind = .function) (hx : (envOf name scope L a cd).kindOf "GrammarError" = some .globalImplicit)
    (he : starEach [e₀] (envOf name scope L a cd) = [(false, PySem.eval e₀ (envOf name scope L a cd))])
    (h : wpAny (model prg w) ((Ar dp un gd frs).deeper (envOf name scope L a cd)) (spliced (backTo cpos (starEach [e₀] (envOf name scope L a cd)))) (GeEnd g L E) E s) :
    wpAny (model prg w) ((Ar dp un gd frs).deeper (envOf name scope L a cd)) (PySem.exec (.Raise (some (.Call (.Name "GrammarError" np) [e₀] [] cpos)) none pos) (envOf name scope L a cd)) Q E s := by
  rw [arm_exec_Raise]
  refine wpAny_bind (wpAny_standAt ?_)
  have hcB : (Value.ref 59 :: exBm).contains (.type "BaseException") = true := by decide
  simp only [evalOpt, Option.map]
  unfold raiseStmt
  refine wpAny_bind (wpAny_bind (wpAny_Call_ofName (name_K F X' (topRead_of T') (v := .ref 59) (by k_is) ?_ hk hx)))
  refine callWith_K (f := .ref 59) X' (by k_is) ?_ he rfl
  refine wpAny_mono h (fun vs s₂ h₂ => ?_) fun _ _ y => y
  obtain ⟨x, t, m₂, rfl, F₂, k₂⟩ := h₂
  have B₂ := B.push (name := name) (scope := scope) (a := a) (cd := cd) F₂ hk
  refine ⟨X'.keeps F₂.keep, ?_⟩
  refine call_ge (dp := dp + 1) (un := un + 3) (gd := gd) (frs := envOf name scope L a cd :: frs) ⟨X, T, fun b o q => B₂.stays b o q, B₂.frames⟩ (by omega) (by omega) fun h' e t₀ dd tk' kp he0 he' => ?_
  have hE := k₂ h' e t₀ (some dd) tk' kp he0 he'
  obtain ⟨nm, q, bs, sn, sub, ab, col, d5, k0, k1, k2, k3, k5, hC⟩ := cls59o (w := w) (h := h') ((X'.keeps F₂.keep).keeps fun b o q => kp b o q (fun z => nomatch z))
  obtain ⟨hp, g2, dr, tk, os⟩ := s₂
  dsimp only at *
  repeat (first | with_reducible refine wpAny_loadPart_at he' ?_ | with_reducible refine wpAny_loadPart_at hC ?_ | (with_reducible refine wpAny_isSubtype_exc hC ?_; rw [hcB]) | wp_step)
  exact wpAny_raiseNew_none rfl hE
end
theorem words_B2 : True := by
  k_with_none
  k_with "ktr_room" =>
    ((try simp only [depth_under_make, depth_under_kw, depth_in1, depth_deeper]); (try dsimp only [Ar]); omega)
  k_with "ktr_units" =>
    ((try simp only [units_in1, units_deeper, Around.mark_units]); (try dsimp only [Ar]); omega)
  k_with "ktr_enter" =>
    (
      intro frs dp un gd s R hs G hap hd hu ret err
      subst hs
      have X := G.X
      have T := G.T
      k_dflt (
        refine' enterP G _ ?k1 hap ?k3 ?k4 ?k5 ?k6 ?k8 ?k7 ?_ ?c2 ?c3 ?c4 ?c5
        (case k3 => k_is)
        (case k4 => k_is)
        (case k1 => assumption)
        (case k5 => omega)
        (case k6 => exact rfl)
        (case k8 => (refine' zr_of ?zra ?zrb; (case zra => (dsimp only [List.map_cons, List.map_nil]; try exact rfl)); (case zrb => first | exact zr1 | exact zr2 | exact zr3 | exact zr4 | exact zr5 | exact zr6 | exact zr7 | exact zr8)))
        (case k7 => exact locs rfl)
        (case c2 => exact rfl)
        (case c3 => exact rfl)
        (case c4 => exact rfl)
        (case c5 => decide)
        k_whole
        intro g' L' h' tk' gk' F' N' B' X' T'
        (try dsimp only)
        (try k_fold)))
  k_with "ktr_step" =>
    (
      intro frs dp un gd s R hs G hap hd hu ret err
      subst hs
      have X := G.X
      have T := G.T
      have Xs : (frag.heap_1 w.params).In s.heap := X.keeps G.st
      k_dflt (
        refine' enter G _ ?k1 hap ?k3 ?k4 ?k5 ?k6 ?k7 ?_ ?c2 ?c3 ?c4 ?c5
        (case k3 => k_is)
        (case k4 => k_is)
        (case k1 => assumption)
        (case k5 => omega)
        (case k6 => first | exact BindsTo.of_eq rfl | exact binds_K Xs rfl (by k_is) rfl rfl rfl)
        (case k7 => exact locs rfl)
        (case c2 => exact rfl)
        (case c3 => exact rfl)
        (case c4 => exact rfl)
        (case c5 => decide)
        k_whole
        intro g' L' h' gk' F' N' B' X' T'
        (try dsimp only)
        (try k_fold)))
  k_with "exec Raise some none" =>
    (k_dflt (refine' Raise_ge X T B' ?F X' T' ?d ?u ?a ?b ?c ?_; (case F => k_asm); (case d => ktr_room); (case u => ktr_units); (case a => exact rfl); (case b => exact rfl); (case c => exact rfl)))
  k_with "call ref" =>
    (k_dflt (
      (first
      | (refine' use0 (is_kept ?a) X T B' ?F ?N ?A ?L ?K ?d ?u ?_ ?e; (case a => assumption))
      | (refine' use0 (is_literal ?a) X T B' ?F ?N ?A ?L ?K ?d ?u ?_ ?e; (case a => assumption)))
      (case F => k_asm)
      (case N => k_asm)
      (case A => exact rfl)
      (case L => exact rfl)
      (case K => intro h9; cases h9)
      (case d => ktr_room)
      (case u => ktr_units)
      (case e => intro h9; cases h9)
      intro h' tk' F' N'
      (try k_sweep)))
  trivial
section
variable {w : World} {loose : List Str} {mean : ExcName → Option Value} {mg mb : Str → Option Value} {base : Heap}
theorem check_name {h : Heap} {x : Str} {t : Tok} (hx : x.length < 1000) (hk : kept x = false) :
    Spec w loose mean mg mb base 207 [.str x t] 2 h [] (fun v n => v = .none ∧ n = []) False := by
  have fp := fp0 (base := base) (h := h)
  ktr_enter
  k_steps
  refine leaveC (by k_asm) (by k_asm) fun kp nw => ret _ _ _ [] kp (nw.sub fun p hp => nomatch hp) ⟨rfl, rfl⟩
theorem check_name_bad {h : Heap} {x : Str} {t : Tok} (hx : x.length < 1000) (hk : kept x = true) :
    Spec w loose mean mg mb base 207 [.str x t] 4 h [] (fun v n => False) True := by
  have fp := fp0 (base := base) (h := h)
  ktr_enter
  k_steps
  refine geEnd (by k_asm) fun h' e t₀ dd tk' kp he0 he => raise_out gk' (fun p hp => (fp p hp).1) B' (by k_asm) (by k_asm) kp he0 he rfl fun h2 fl => err trivial e h2 tk' fl
end
/-- a maker's addresses, and its field names' own marks -/
structure MA where
  x : Addr
  d : Addr
  t : Addr
  lv : Addr
  dr : Addr
  lf : Addr
  k1 : Tok
  k2 : Tok
  k3 : Tok
  k4 : Tok
  k5 : Tok
  k6 : Tok
  k7 : Tok
  k8 : Tok

abbrev attrs (w : World) (m : MA) (lc : Int) (lct : Tok) (mc : Int) (mct : Tok) (st ex : Value) : List DictEntry :=
  [⟨PyData.keyHash w.params "terminals", .str "terminals" m.k1, .ref m.t⟩, ⟨PyData.keyHash w.params "levels", .str "levels" m.k2, .ref m.lv⟩, ⟨PyData.keyHash w.params "level_count", .str "level_count" m.k3, .int lc lct⟩,
   ⟨PyData.keyHash w.params "drafts", .str "drafts" m.k4, .ref m.dr⟩, ⟨PyData.keyHash w.params "lefts", .str "lefts" m.k5, .ref m.lf⟩, ⟨PyData.keyHash w.params "middle_count", .str "middle_count" m.k6, .int mc mct⟩,
   ⟨PyData.keyHash w.params "start", .str "start" m.k7, st⟩, ⟨PyData.keyHash w.params "expect", .str "expect" m.k8, ex⟩]

abbrev mled (w : World) (m : MA) (lc : Int) (lct : Tok) (mc : Int) (mct : Tok) (st ex : Value) (ts : List Value) (te : Nat) (lo : Obj) (ds : List Value) (de : Nat) (ls : List Value) (le : Nat) : List (Addr × Obj) :=
  [(m.x, instObj 335 m.d), (m.d, dictOf (attrs w m lc lct mc mct st ex) 8), (m.t, listOf ts.toArray te), (m.lv, lo), (m.dr, listOf ds.toArray de), (m.lf, listOf ls.toArray le)]

/-- the addresses stand apart -/
structure MA.Ok (m : MA) : Prop where
  a1 : @LT.lt Nat instLTNat m.d m.x
  a2 : @LT.lt Nat instLTNat m.x m.t
  a3 : @LT.lt Nat instLTNat m.t m.lv
  a4 : @LT.lt Nat instLTNat m.lv m.dr
  a5 : @LT.lt Nat instLTNat m.dr m.lf

theorem append_L {A : Around} {E : Value → Shared → Prop} {s : Shared} {h₀ : Heap} {L D : Addr} {m : Str → Option Value} {news news' : List (Addr × Obj)} {prog : Program} {w : World} {its : List Value} {n : Nat} {x : Value} {Q : Value → Shared → Prop} (F : Fr h₀ L s.heap m) (N : News h₀ L s.heap news) (U : Upd D (listOf its.toArray n) (listOf (its ++ [x]).toArray (n + 1)) news news')
    (hsz : its.length < 1000000) (h : ∀ h', Fr h₀ L h' m → News h₀ L h' news' → Q .none { s with heap := h' }) : wpAny (model prog w) A (call (.builtin "list.append") [.ref D, x]) Q E s :=
  append_K F N (by rw [List.push_toArray]; exact U) h (by rw [List.size_toArray, sizeLine_eq]; omega)

theorem isL {g h : Heap} {L a : Addr} {news : List (Addr × Obj)} {its : List Value} {n : Nat} (N : News g L h news) (hm : (a, listOf its.toArray n) ∈ news) : h.IsList a its.toArray := ⟨_, (N _ hm).1, rfl, n, rfl⟩
noncomputable def addTok (ss : List Str) (x : Str) : List Str := if (x != Str.ofString "error") = true ∧ (ss.any fun y => y == x) = false then ss ++ [x] else ss
theorem addTok_new {ts : List Value} {ss : List Str} {x : Str} {t : Tok} (h : StrsAre ts ss) (h1 : (x != Str.ofString "error") = true) (h2 : (ss.any fun y => y == x) = false) : StrsAre (ts ++ [.str x t]) (addTok ss x) := by
  rw [addTok, if_pos ⟨h1, h2⟩]; exact h.append' (.cons _ _ .nil)
theorem addTok_old {ts : List Value} {ss : List Str} {x : Str} (h : StrsAre ts ss) (h2 : (ss.any fun y => y == x) = true) : StrsAre ts (addTok ss x) := by
  rw [addTok, if_neg (fun q => by rw [q.2] at h2; cases h2)]; exact h
theorem addTok_err {ts : List Value} {ss : List Str} {x : Str} (h : StrsAre ts ss) (h2 : (x != Str.ofString "error") = false) : StrsAre ts (addTok ss x) := by
  rw [addTok, if_neg (fun q => by rw [q.1] at h2; cases h2)]; exact h
noncomputable def addNew (ss : List Str) (x : Str) : List Str := if (ss.any fun y => y == x) = false then ss ++ [x] else ss
theorem addNew_new {ts : List Value} {ss : List Str} {x : Str} {t : Tok} (h : StrsAre ts ss) (h2 : (ss.any fun y => y == x) = false) : StrsAre (ts ++ [.str x t]) (addNew ss x) := by
  rw [addNew, if_pos h2]; exact h.append' (.cons _ _ .nil)
theorem addNew_old {ts : List Value} {ss : List Str} {x : Str} (h : StrsAre ts ss) (h2 : (ss.any fun y => y == x) = true) : StrsAre ts (addNew ss x) := by
  rw [addNew, if_neg (fun q => by rw [q] at h2; cases h2)]; exact h
noncomputable def useTok (ss : List Str) (x : Str) : List Str := if lit x = true then addTok ss x else ss

theorem useTok_new {ts : List Value} {ss : List Str} {x : Str} (h : StrsAre ts (addTok ss x)) (h2 : lit x = true) : StrsAre ts (useTok ss x) := by
  rw [useTok, if_pos h2]; exact h
theorem useTok_old {ts : List Value} {ss : List Str} {x : Str} (h : StrsAre ts ss) (h2 : lit x = false) : StrsAre ts (useTok ss x) := by
  rw [useTok, if_neg (fun q => by rw [h2] at q; cases q)]; exact h

inductive Rm (p : Addr × Obj) : List (Addr × Obj) → List (Addr × Obj) → Prop
  | head {r} : Rm p (p :: r) r
  | tail {q r r'} : Rm p r r' → Rm p (q :: r) (q :: r')
inductive Pick : List (Addr × Obj) → List (Addr × Obj) → List (Addr × Obj) → Prop
  | nil {l} : Pick [] l l
  | cons {p ps l l' r} : Rm p l l' → Pick ps l' r → Pick (p :: ps) l r
theorem Rm.subs {p : Addr × Obj} {l l' : List (Addr × Obj)} (h : Rm p l l') : p ∈ l ∧ ∀ q ∈ l', q ∈ l := by
  induction h with
  | head => exact ⟨.head _, fun _ h => .tail _ h⟩
  | tail _ ih => exact ⟨.tail _ ih.1, fun q h => by
      rcases List.mem_cons.mp h with rfl | h
      · exact .head _
      · exact .tail _ (ih.2 q h)⟩
theorem Pick.subs {f l r : List (Addr × Obj)} (h : Pick f l r) : (∀ p ∈ f, p ∈ l) ∧ ∀ q ∈ r, q ∈ l := by
  induction h with
  | nil => exact ⟨fun _ h => (nomatch h), fun _ h => h⟩
  | cons a b ih => exact ⟨fun p h => by
      rcases List.mem_cons.mp h with rfl | h
      · exact a.subs.1
      · exact a.subs.2 _ (ih.1 p h), fun q h => a.subs.2 _ (ih.2 q h)⟩
noncomputable def AllNe (fp : List Addr) : List (Addr × Obj) → Prop
  | [] => True
  | p :: r => (∀ a ∈ fp, a ≠ p.1) ∧ AllNe fp r
theorem AllNe.all {fp : List Addr} {l : List (Addr × Obj)} (h : AllNe fp l) : ∀ p ∈ l, p.1 ∉ fp := by
  induction l with
  | nil => exact fun _ h => nomatch h
  | cons q r ih =>
    intro p hp
    rcases List.mem_cons.mp hp with rfl | hp
    · exact fun z => h.1 _ z rfl
    · exact ih h.2 p hp
theorem ne1 {a : Addr} {l : List Addr} {b : Addr} (h : @Ne Nat a b) (r : ∀ a ∈ l, a ≠ b) : ∀ x ∈ a :: l, x ≠ b := fun x hx => by
  rcases List.mem_cons.mp hx with rfl | hx
  · exact h
  · exact r x hx
theorem ne0 {b : Addr} : ∀ x ∈ ([] : List Addr), x ≠ b := fun _ h => nomatch h

section
variable {w : World} {loose : List Str} {mean : ExcName → Option Value} {mg mb : Str → Option Value} {base : Heap}
theorem useP {f : Addr} {args : List Value} {k : Nat} {fpo : List (Addr × Obj)} {Post : Value → List (Addr × Obj) → Prop} {Exc : Prop} {s : Shared}
    {A A₀ : Around} {env : Env} {frs : List Env} {g : Heap} {L : Addr} {m : Str → Option Value} {news rest : List (Addr × Obj)} {Q E : Value → Shared → Prop} {dp un : Nat} {gd : Option (List Code)}
    (Sp : FP base s.heap fpo → Spec w loose mean mg mb base f args k s.heap fpo Post Exc)
    (X : (frag.heap_1 w.params).In base) (T : Top view loose mean mg mb base) (B : Below A₀ base frs g) (F : Fr g L s.heap m) (N : News g L s.heap news)
    (hA : A = Ar dp un gd (env :: frs)) (hL : env.frame = some L) (hke : env.scope.kind ≠ .module) (hd : dp + k < recursionLimit) (hu : un + 8 * k < cLine)
    (P : Pick fpo news rest) (hne : AllNe (adr fpo) rest)
    (ret : ∀ v h' tk' news', Fr g L h' m → News g L h' (news' ++ rest) → (∀ p ∈ news', p.1 ∈ adr fpo ∨ ∀ q ∈ news, q.1 ≠ p.1) → Kp (adr fpo) s.heap h' → Post v news' → Q v { s with heap := h', toks := tk' })
    (err : Exc → ∀ e h' tk', Fly s.heap (env :: frs) e h' → E (.ref e) { s with heap := h', toks := tk' }) :
    wpAny (model prg w) A (call (.ref f) args) Q E s :=
  use (Sp fun p hp => ⟨(N p (P.subs.1 p hp)).1, by
    cases q : base.get? p.1 with
    | none => rfl
    | some o => have z := B.stays _ _ q; rw [(N p (P.subs.1 p hp)).2.2] at z; cases z⟩) X T B F N hA hL hke hd hu P.subs.1 (fun p hp => ⟨P.subs.2 p hp, hne.all p hp⟩) ret err
theorem fp_of {g h : Heap} {L : Addr} {news fpo rest : List (Addr × Obj)} {A₀ : Around} {frs : List Env} (B : Below A₀ base frs g) (N : News g L h news) (P : Pick fpo news rest) : FP base h fpo := fun p hp =>
  ⟨(N p (P.subs.1 p hp)).1, by
    cases q : base.get? p.1 with
    | none => rfl
    | some o => have z := B.stays _ _ q; rw [(N p (P.subs.1 p hp)).2.2] at z; cases z⟩
end
section
variable {w : World} {loose : List Str} {mean : ExcName → Option Value} {mg mb : Str → Option Value} {base : Heap}
variable {A A₀ : Around} {env : Env} {frs : List Env} {g : Heap} {L : Addr} {m : Str → Option Value} {news rest : List (Addr × Obj)} {Q E : Value → Shared → Prop} {dp un : Nat} {gd : Option (List Code)} {hp : Heap} {gn : Array GenState} {dr : Drawn} {tk : Nat} {os : OsState}
variable {p c : Addr} {e : Nat} {pos : Int} {pt : Tok} {res : Int} {rt : Tok} {cs : List Value} {xs : List Int} {n : Nat} {many : Int} {mt : Tok}
theorem dip_use (hcp : @LT.lt Nat instLTNat c p) (hi : IntsAre cs xs) (hn : cs.length < 100) (hm : 0 < many) (hm1 : many < 1000) (hp0 : 0 ≤ pos) (hp1 : pos < 1000000) (hr : 0 ≤ res)
    (X : (frag.heap_1 w.params).In base) (T : Top view loose mean mg mb base) (B : Below A₀ base frs g) (F : Fr g L hp m) (N : News g L hp news)
    (hA : A = Ar dp un gd (env :: frs)) (hL : env.frame = some L) (hke : env.scope.kind ≠ .module) (hd : dp + 2 < recursionLimit) (hu : un + 8 * 2 < cLine)
    (P : Pick (penL p c e pos pt res rt cs n) news rest) (hne : AllNe [p, c] rest)
    (ret : ∀ (r : Int) (t : Tok) (e' : Nat) (pos' : Int) (pt' : Tok) (res' : Int) (rt' : Tok) (h' : Heap) (tk' : Nat), 0 ≤ r → r < many → 0 ≤ pos' → pos' ≤ pos + 1 → 0 ≤ res' → Fr g L h' m → News g L h' ((p, listOf [.ref c, .int pos' pt', .int res' rt'].toArray e') :: (c, listOf cs.toArray n) :: rest) → Q (.int r t) ⟨h', gn, dr, tk', os⟩) :
    wpAny (model prg w) A (call (.ref 351) [.ref p, .int many mt]) Q E ⟨hp, gn, dr, tk, os⟩ :=
  useP (s := ⟨hp, gn, dr, tk, os⟩) (dip hcp hi hn hm hm1 hp0 hp1 hr) X T B F N hA hL hke hd hu P hne (fun v h' tk' news' F' N' _ _ po => by
    obtain ⟨r, t, e', pos', pt', res', rt', rfl, a0, a1, a2, a3, a4, rfl⟩ := po
    exact ret r t e' pos' pt' res' rt' h' tk' a0 a1 a2 a3 a4 F' N') fun f => f.elim
end
/-- the goal, out of sight -/
theorem hideG {P : Prop} (h : ∀ G : Prop, (P → G) → G) : P := h P id
section
variable {prog : Program} {w : World} {A : Around} {E : Value → Shared → Prop} {h₀ : Heap} {L a : Addr} {m : Str → Option Value} {cn : Str} {cs : Scope} {ccd : Value} {cl : List (Str × Addr)}
theorem hideT {s : Shared} {target : PySem.Expr} {env : Env} {v : Value} {body : List Stmt} {Qt : Flow → Shared → Prop}
    (h : ∀ Q' : Flow → Shared → Prop, (∀ a s', Qt a s' → Q' a s') → wpAny (model prog w) A (assign target env v) (fun _ s₂ => wpAny (model prog w) A (PySem.execs body env) Q' E s₂) E s) :
    wpAny (model prog w) A (assign target env v) (fun _ s₂ => wpAny (model prog w) A (PySem.execs body env) Qt E s₂) E s := h Qt fun _ _ h => h
theorem hideC {M : Model} {A : Around} {E : Value → Shared → Prop} {s : Shared} {α : Type} {x : Sem α} {Q : α → Shared → Prop} (h : ∀ Q' : α → Shared → Prop, (∀ a s', Q a s' → Q' a s') → wpAny M A x Q' E s) : wpAny M A x Q E s := h Q fun _ _ h => h
/-- a test of a name against a written int: both ways -/
theorem if_two {env : Env} {hp gn dr tk os} {x : Str} {r c : Int} {t : Tok} {k} {p1 p2 p3 pos : Pos} {body orelse : List Stmt} {Q : Flow → Shared → Prop} (F : Fr h₀ L hp m) (he : env = envX cn cs L a ccd cl) (hv : m x = some (.int r t))
    (hy : wpAny (model prog w) A (PySem.execs body env) Q E ⟨hp, gn, dr, tk + 1, os⟩) (hn : wpAny (model prog w) A (PySem.execs orelse env) Q E ⟨hp, gn, dr, tk + 1, os⟩)
    (hx : (envX cn cs L a ccd cl).kindOf x = some .local) (hd : (x == ("__debug__" : Str)) = false) (hk : cs.kind = .function) :
    wpAny (model prog w) A (PySem.exec (.If (.Compare (.Name x p1) [.Eq] [.Constant (.int c) k p2] p3) body orelse pos) env) Q E ⟨hp, gn, dr, tk, os⟩ := by
  by_cases q : r = c
  · exact if_yes F he hv (.int_yes q) hy hx hd hk
  · exact if_no F he hv (.int_no q) hn hx hd hk
/-- a row and what follows: the rest is walked once -/
theorem cut {env : Env} {hp gn dr tk os} {st : Stmt} {rest : List Stmt} {news : List (Addr × Obj)} {Q : Flow → Shared → Prop} (F : Fr h₀ L hp m) (N : News h₀ L hp news)
    (main : ∀ G : Flow → Shared → Prop, (∀ h2 tk2, Fr h₀ L h2 m → News h₀ L h2 news → G .next ⟨h2, gn, dr, tk2, os⟩) → (∀ v s', Q (.ret v) s' → G (.ret v) s') → wpAny (model prog w) A (PySem.exec st env) G E ⟨hp, gn, dr, tk, os⟩)
    (next : ∀ h2 tk2, Fr h₀ L h2 m → News h₀ L h2 news → wpAny (model prog w) A (PySem.execs rest env) Q E ⟨h2, gn, dr, tk2, os⟩) :
    wpAny (model prog w) A (PySem.execs (st :: rest) env) Q E ⟨hp, gn, dr, tk, os⟩ :=
  wpAny_execs_cons (main _ next fun _ _ h => h)
end
section
variable {M : Model} {A : Around} {E : Value → Shared → Prop} {s : Shared} {h₀ : Heap} {L a : Addr} {m : Str → Option Value} {cn : Str} {cs : Scope} {ccd : Value} {cl : List (Str × Addr)}
theorem tuple_atomsL {pos : Pos} {k : Nat} {es : List PySem.Expr} {env : Env} {hp gn dr tk os} {tk' : Nat} {vs : List Value} {news : List (Addr × Obj)} {Q : Value → Shared → Prop} (F : Fr h₀ L hp m) (N : News h₀ L hp news) (he : env = envX cn cs L a ccd cl) (H : Atoms m env es tk vs tk')
    (hz : vs.length ≤ sizeLine) (h : ∀ D h', let nw := (D, ({ cls := .type "tuple", data := .seq vs.toArray } : Obj)) :: news; Fr h₀ L h' m → News h₀ L h' nw → (∀ p ∈ news, p.1 < D) → Q (.ref D) ⟨h', gn, dr, tk', os⟩)
    (hk : cs.kind = .function) : wpAny M A (PySem.eval (.Tuple es k pos) env) Q E ⟨hp, gn, dr, tk, os⟩ :=
  tuple_atoms F N he H hz h hk
theorem list_atomsL {pos : Pos} {es : List PySem.Expr} {env : Env} {hp gn dr tk os} {tk' : Nat} {vs : List Value} {news : List (Addr × Obj)} {Q : Value → Shared → Prop} (F : Fr h₀ L hp m) (N : News h₀ L hp news) (he : env = envX cn cs L a ccd cl) (H : Atoms m env es tk vs tk')
    (hz : vs.length ≤ sizeLine) (h : ∀ D h', let nw := (D, listOf vs.toArray 0) :: news; Fr h₀ L h' m → News h₀ L h' nw → (∀ p ∈ news, p.1 < D) → Q (.ref D) ⟨h', gn, dr, tk', os⟩)
    (hk : cs.kind = .function) : wpAny M A (PySem.eval (.List es pos) env) Q E ⟨hp, gn, dr, tk, os⟩ :=
  list_atoms F N he H hz h hk
theorem newTupleL {vs : List Value} {hp : Heap} {gn dr tk os} {news : List (Addr × Obj)} {Q : Value → Shared → Prop} (F : Fr h₀ L hp m) (N : News h₀ L hp news)
    (h : ∀ D h', let nw := (D, ({ cls := .type "tuple", data := .seq vs.toArray } : Obj)) :: news; Fr h₀ L h' m → News h₀ L h' nw → (∀ p ∈ news, p.1 < D) → Q (.ref D) ⟨h', gn, dr, tk, os⟩) (hz : vs.length ≤ sizeLine) : wpAny M A (newTuple vs) Q E ⟨hp, gn, dr, tk, os⟩ :=
  kup_newTuple (s := ⟨hp, gn, dr, tk, os⟩) F N h hz
theorem newListL {vs : List Value} {hp : Heap} {gn dr tk os} {news : List (Addr × Obj)} {Q : Value → Shared → Prop} (F : Fr h₀ L hp m) (N : News h₀ L hp news)
    (h : ∀ D h', let nw := (D, W.listOf vs.toArray 0) :: news; Fr h₀ L h' m → News h₀ L h' nw → (∀ p ∈ news, p.1 < D) → Q (.ref D) ⟨h', gn, dr, tk, os⟩) (hz : vs.length ≤ sizeLine) : wpAny M A (newList vs) Q E ⟨hp, gn, dr, tk, os⟩ :=
  newList_K (s := ⟨hp, gn, dr, tk, os⟩) F N h hz
theorem storeL {x : Str} {v : Value} {hp : Heap} {gn dr tk os} {news : List (Addr × Obj)} {Q : Unit → Shared → Prop} (F : Fr h₀ L hp m) (N : News h₀ L hp news)
    (h : ∀ h', let mm : Str → Option Value := fun y => if y = x then some v else m y; Fr h₀ L h' mm → News h₀ L h' news → Q () ⟨h', gn, dr, tk + 1, os⟩)
    (hk : cs.kind = .function) (hx : (envX cn cs L a ccd cl).kindOf x = some .local) : wpAny M A (storeName (envX cn cs L a ccd cl) x v) Q E ⟨hp, gn, dr, tk, os⟩ :=
  storeX_L (s := ⟨hp, gn, dr, tk, os⟩) F N h hk hx
end
/-- a ledger by a name -/
theorem foldN {g h : Heap} {L : Addr} {news : List (Addr × Obj)} (N : News g L h news) {P : Prop} (k : let nw := news; News g L h nw → P) : P := k N
/-- an entry by its place -/
noncomputable def nth {α : Type} : List α → Nat → Option α
  | [], _ => none
  | x :: _, 0 => some x
  | _ :: l, n + 1 => nth l n
theorem mem_at {α : Type} {x : α} : ∀ {l : List α} (i : Nat), nth l i = some x → x ∈ l
  | _ :: _, 0, h => by cases h; exact .head _
  | _ :: _, n + 1, h => .tail _ (mem_at n h)
/-- a list picked from another by places -/
noncomputable def sel {α : Type} (l : List α) : List Nat → List α
  | [] => []
  | i :: is => match nth l i with
    | some x => x :: sel l is
    | none => sel l is
theorem sel_sub {α : Type} {l : List α} : ∀ (is : List Nat), ∀ x ∈ sel l is, x ∈ l
  | [], _, h => nomatch h
  | i :: is, x, h => by
    rw [sel] at h
    cases e : nth l i with
    | none => rw [e] at h; exact sel_sub is x h
    | some y =>
      rw [e] at h
      rcases List.mem_cons.mp h with rfl | h
      · exact mem_at i e
      · exact sel_sub is x h
/-- the addresses that the ledger knows -/
noncomputable def Has (xs : List Addr) (news : List (Addr × Obj)) : Prop := ∀ x ∈ xs, ∃ o, (x, o) ∈ news
theorem Has.cons {xs : List Addr} {news : List (Addr × Obj)} {q : Addr × Obj} (h : Has xs news) : Has xs (q :: news) := fun x hx => let ⟨o, ho⟩ := h x hx; ⟨o, .tail _ ho⟩
theorem Has.sub {xs : List Addr} {news news' : List (Addr × Obj)} (h : Has xs news) (s : ∀ p ∈ news, p ∈ news') : Has xs news' := fun x hx => let ⟨o, ho⟩ := h x hx; ⟨o, s _ ho⟩
theorem Has.keys {xs : List Addr} {news news' : List (Addr × Obj)} (h : Has xs news) (s : ∀ p ∈ news, ∃ o, (p.1, o) ∈ news') : Has xs news' := fun x hx => let ⟨o, ho⟩ := h x hx; s _ ho
theorem Has.nil {news : List (Addr × Obj)} : Has [] news := fun _ h => nomatch h
theorem Has.mk {x : Addr} {xs : List Addr} {o : Obj} {news : List (Addr × Obj)} (h : (x, o) ∈ news) (r : Has xs news) : Has (x :: xs) news := fun y hy => by
  rcases List.mem_cons.mp hy with rfl | hy
  · exact ⟨o, h⟩
  · exact r y hy
theorem Has.ne {xs : List Addr} {news : List (Addr × Obj)} {D : Addr} (h : Has xs news) (l : ∀ p ∈ news, p.1 < D) : ∀ x ∈ xs, x ≠ D := fun x hx => let ⟨_, ho⟩ := h x hx; Nat.ne_of_lt (l _ ho)
theorem Has.allNe {xs : List Addr} {news nd : List (Addr × Obj)} {D : Addr} {o : Obj} (h : Has xs news) (l : ∀ p ∈ news, p.1 < D) (r : AllNe xs nd) : AllNe xs ((D, o) :: nd) := ⟨h.ne l, r⟩
theorem ne_mem {news : List (Addr × Obj)} {a D : Addr} {o : Obj} (l : ∀ p ∈ news, @Ne Nat p.1 D) (h : (a, o) ∈ news) : @Ne Nat a D := l _ h
theorem Has.allNe2 {xs : List Addr} {news nd : List (Addr × Obj)} {D : Addr} {o : Obj} (h : Has xs news) (l : ∀ p ∈ news, @Ne Nat p.1 D) (r : AllNe xs nd) : AllNe xs ((D, o) :: nd) := ⟨fun x hx => let ⟨_, ho⟩ := h x hx; l _ ho, r⟩
theorem off3F {g h : Heap} {L I C D : Addr} {oI oC oD : Obj} {nx : List (Addr × Obj)} (off : LCg.Off3 I C D nx) (N : News g L h ((I, oI) :: (C, oC) :: (D, oD) :: nx)) {P : Prop}
    (k : let nw0 := nx; let nw := (I, oI) :: (C, oC) :: (D, oD) :: nw0; (∀ q ∈ nw0, @Ne Nat q.1 I) → (∀ q ∈ nw0, @Ne Nat q.1 C) → (∀ q ∈ nw0, @Ne Nat q.1 D) → LCg.Off3 I C D nw0 → News g L h nw → P) : P :=
  k (fun q hq => (off.mem q hq).1) (fun q hq => (off.mem q hq).2.1) (fun q hq => (off.mem q hq).2.2) off N
theorem off1_mem' {D : Addr} : ∀ {l : List (Addr × Obj)}, LCg.Off1 D l → ∀ p ∈ l, @Ne Nat p.1 D
  | [], _, _, h => nomatch h
  | _ :: _, x, p, h => by
    rcases List.mem_cons.mp h with rfl | h
    · exact x.1
    · exact off1_mem' x.2 p h
theorem off1F {g h : Heap} {L D : Addr} {oD : Obj} {nx : List (Addr × Obj)} (off : LCg.Off1 D nx) (N : News g L h ((D, oD) :: nx)) {P : Prop}
    (k : let nw0 := nx; let nw := (D, oD) :: nw0; (∀ q ∈ nw0, @Ne Nat q.1 D) → News g L h nw → P) : P :=
  k (off1_mem' off) N
theorem words_B7 : True := by
  k_with_none
  k_with "ktr_room" =>
    ((try simp only [depth_under_make, depth_under_kw, depth_in1, depth_deeper]); (try dsimp only [Ar]); omega)
  k_with "ktr_units" =>
    ((try simp only [units_in1, units_deeper, Around.mark_units]); (try dsimp only [Ar]); omega)
  k_with "ktr_enter" =>
    (
      intro frs dp un gd s R hs G hap hd hu ret err
      subst hs
      have X := G.X
      have T := G.T
      k_dflt (
        refine' enterP G _ ?k1 hap ?k3 ?k4 ?k5 ?k6 ?k8 ?k7 ?_ ?c2 ?c3 ?c4 ?c5
        (case k3 => k_is)
        (case k4 => k_is)
        (case k1 => assumption)
        (case k5 => omega)
        (case k6 => exact rfl)
        (case k8 => (refine' zr_of ?zra ?zrb; (case zra => (dsimp only [List.map_cons, List.map_nil]; try exact rfl)); (case zrb => first | exact zr1 | exact zr2 | exact zr3 | exact zr4 | exact zr5 | exact zr6 | exact zr7 | exact zr8)))
        (case k7 => exact locs rfl)
        (case c2 => exact rfl)
        (case c3 => exact rfl)
        (case c4 => exact rfl)
        (case c5 => decide)
        k_whole
        intro g' L' h' tk' gk' F' N' B' X' T'
        (try dsimp only [mled] at N')
        (try dsimp only)
        (try k_fold)))
  k_with "ktr_step" =>
    (
      intro frs dp un gd s R hs G hap hd hu ret err
      subst hs
      have X := G.X
      have T := G.T
      have Xs : (frag.heap_1 w.params).In s.heap := X.keeps G.st
      k_dflt (
        refine' enter G _ ?k1 hap ?k3 ?k4 ?k5 ?k6 ?k7 ?_ ?c2 ?c3 ?c4 ?c5
        (case k3 => k_is)
        (case k4 => k_is)
        (case k1 => assumption)
        (case k5 => omega)
        (case k6 => first | exact BindsTo.of_eq rfl | exact binds_K Xs rfl (by k_is) rfl rfl rfl)
        (case k7 => exact locs rfl)
        (case c2 => exact rfl)
        (case c3 => exact rfl)
        (case c4 => exact rfl)
        (case c5 => decide)
        k_whole
        intro g' L' h' gk' F' N' B' X' T'
        (try dsimp only [mled] at N')
        (try dsimp only)
        (try k_fold)))
  k_with "exec Raise some none" =>
    (k_dflt (refine' Raise_ge X T B' ?F X' T' ?d ?u ?a ?b ?c ?_; (case F => k_asm); (case d => ktr_room); (case u => ktr_units); (case a => exact rfl); (case b => exact rfl); (case c => exact rfl)))
  k_with "ktr_rel" =>
    (
      (case F => k_asm)
      (case N => k_asm)
      (case A => exact rfl)
      (case L => exact rfl)
      (case K => intro h9; cases h9)
      (case d => ktr_room)
      (case u => ktr_units)
      (case e => intro h9; cases h9)
      intro h' tk' F' N'
      (try k_sweep))
  k_with "ktn_open" =>
    first | exact Rm.head | (refine' Rm.tail ?b; (case b => ktn_open))
  k_with "tb_start" =>
    first | exact Pick.nil | (refine' Pick.cons ?a ?b; (case a => ktn_open); (case b => tb_start))
  k_with "k_memK" =>
    first | exact ne0 | (refine ne1 ?x ?_; (case x => ((try dsimp only); omega)); k_memK)
  k_with "k_allIn" =>
    first | exact True.intro | (refine And.intro ?h ?_; (case h => k_memK); k_allIn)
  k_with "tb_rel" =>
    (
      (case F => k_asm)
      (case N => k_asm)
      (case A => exact rfl)
      (case L => exact rfl)
      (case K => intro h9; cases h9)
      (case d => ktr_room)
      (case u => ktr_units)
      (case e => intro h9; cases h9)
      (case P => tb_start)
      (case ne => k_allIn))
  k_with "compareOp In str ref" =>
    (k_dflt (refine' in_list_strs ?l ?i ?_; (case l => exact isL (by k_asm) (by k_mem)); (case i => assumption)))
  k_with "compareOp NotIn str ref" =>
    (k_dflt (refine' notin_list_strs ?l ?i ?_; (case l => exact isL (by k_asm) (by k_mem)); (case i => assumption)))
  k_with "call builtin:list.append" =>
    (k_dflt (refine' append_L ?k1 ?k2 ?k3 ?z ?_; (case k1 => k_asm); (case k2 => k_asm); (case k3 => k_upd); (case z => first | omega | (simp only [List.length_append, List.length_cons, List.length_nil]; omega)); k_whole); intro h' F' N'; (try k_sweep))
  k_with "call ref" =>
    (k_dflt (
      (first
      | (refine' use0 (is_kept ?a) X T B' ?F ?N ?A ?L ?K ?d ?u ?_ ?e; (case a => assumption))
      | (refine' use0 (is_literal ?a) X T B' ?F ?N ?A ?L ?K ?d ?u ?_ ?e; (case a => assumption))
      | (refine' use0 (check_name ?a ?b) X T B' ?F ?N ?A ?L ?K ?d ?u ?_ ?e; (case a => assumption); (case b => assumption)))
      ktr_rel))
  k_with "call ref" =>
    (k_dflt (
      (refine' useP (token_ok ?o ?s ?l ?x ?k) X T B' ?F ?N ?A ?L ?K ?d ?u ?P ?ne ?_ ?e)
      (case o => assumption)
      (case x => assumption)
      tb_rel
      (case s => assumption)
      (case l => assumption)
      (case k => assumption)
      intro v' h' tk' news' F' N' hf' kp' po'
      obtain ⟨rfl, ts', te', rfl, hs'⟩ := po'
      simp only [List.cons_append, List.nil_append] at N'
      (try k_sweep)))
  k_with "k_ne" =>
    (refine neN ?_; (try dsimp only); first | with_reducible exact Nat.ne_of_lt (by with_reducible assumption) | with_reducible exact Nat.ne_of_gt (by with_reducible assumption) | with_reducible assumption | with_reducible exact Ne.symm (by with_reducible assumption) | omega)
  k_with "k_memK" =>
    first | exact ne0 | (refine ne1 ?kmx ?_; (case kmx => k_ne); k_memK)
  k_with "ktr_room" =>
    ((try simp only [depth_under_make, depth_under_kw, depth_in1, depth_deeper]); (try dsimp only [Ar]); first | exact room1 (by with_reducible assumption) (by decide) | exact room2 (by with_reducible assumption) (by decide) | omega)
  k_with "ktr_units" =>
    ((try simp only [units_in1, units_deeper, Around.mark_units]); (try dsimp only [Ar]); first | exact units1 (by with_reducible assumption) (by decide) | exact units2 (by with_reducible assumption) (by decide) | exact units3 (by with_reducible assumption) (by decide) | omega)
  k_with "kat_tups" =>
    first | with_reducible_and_instances exact List.Mem.head _ | (refine List.Mem.tail _ ?_; kat_tups) | (refine List.mem_append.mpr (Or.inl ?_); kat_tups) | (refine List.mem_append.mpr (Or.inr ?_); kat_tups) | with_reducible assumption | with_reducible_and_instances exact hq | ((with_reducible show List.Mem _ _); with_reducible_and_instances assumption)
  k_with "top_args" =>
    first | exact List.forall_mem_nil _ | (refine List.forall_mem_cons.mpr (And.intro ?_ ?_); kat_tups; top_args) | (refine List.forall_mem_append.mpr (And.intro ?_ ?_); top_args; top_args) | (intro q hq; kat_tups)
  k_with "mem_news" =>
    first | ((with_reducible_and_instances (repeat (first | exact List.Mem.head _ | refine List.Mem.tail _ ?_))); done) | ((with_reducible show _ ∈ _); kat_tups) | ((try dsimp only [penL, booksL, mled, List.cons_append, List.nil_append]); top_args)
  k_with "ltD" =>
    first | with_reducible assumption | exact lt_l1 (by with_reducible assumption) (by kat_tups) | omega
  k_with "k_ne" =>
    (refine neN ?_; (try dsimp only); first | with_reducible assumption | with_reducible exact Ne.symm (by with_reducible assumption) | with_reducible exact Nat.ne_of_lt (by with_reducible assumption) | with_reducible exact Nat.ne_of_gt (by with_reducible assumption) | exact ne_l1 (by with_reducible assumption) (by kat_tups) | exact Ne.symm (ne_l1 (by with_reducible assumption) (by kat_tups)) | exact ne_l1s (by with_reducible assumption) (by kat_tups) | exact Ne.symm (ne_l1s (by with_reducible assumption) (by kat_tups)) | exact ne_lt2 (by with_reducible assumption) (by with_reducible assumption) (by kat_tups) | exact Ne.symm (ne_lt2 (by with_reducible assumption) (by with_reducible assumption) (by kat_tups)) | exact Anew.ne (by with_reducible assumption) (by kat_tups) | exact Ne.symm (Anew.ne (by with_reducible assumption) (by kat_tups)) | omega)
  k_with "k_all" =>
    first | exact List.forall_mem_nil _ | with_reducible assumption | exact tail_l1 (by with_reducible assumption) (by intro q hq; kat_tups) | (refine' List.forall_mem_cons.mpr ⟨?kaa, ?kab⟩; (case kaa => k_ne); (case kab => k_all))
  k_with "k_allIn" =>
    first | exact True.intro | with_reducible assumption | ((with_reducible refine AllNe.app ?_ ?_) <;> k_allIn) | (refine And.intro ?kah ?_; (case kah => k_memK); k_allIn)
  k_with "useC" =>
    (
      (case F => k_asm)
      (case N => k_asm)
      (case A => exact rfl)
      (case L => exact rfl)
      (case K => intro h9; cases h9)
      (case d => ktr_room)
      (case u => ktr_units)
      (case P => tb_start)
      (case ne => k_allIn))
  k_with "dipC" =>
    (
      (case ta => with_reducible assumption)
      (case tb => assumption)
      (case tc => assumption)
      k_extra "useC"
      (case tg => first | with_reducible assumption | omega)
      (case th => first | exact PB.lt6 (by with_reducible assumption) (by with_reducible assumption) (by decide) | exact PB.lt (by with_reducible assumption) (by with_reducible assumption) (by decide) | omega)
      (case ti => first | with_reducible assumption | omega))
  k_with "pbStep" =>
    (have hPB := PB.step (by with_reducible assumption) hp1)
  k_with "eval Tuple" =>
    (k_fold; walk_at "eval Tuple")
  k_with "eval List" =>
    (k_fold; walk_at "eval List")
  k_with "eval BinOp" =>
    (k_fold; walk_at "eval BinOp")
  k_with "eval Call" =>
    (k_fold; walk_at "eval Call")
  k_with "eval Subscript" =>
    (k_fold; walk_at "eval Subscript")
  k_with "execs cons" =>
    (k_fold; walk_at "execs cons")
  k_with "exec If" =>
    (k_fold; walk_at "exec If")
  k_with "exec Assign" =>
    (k_fold; walk_at "exec Assign")
  k_with "exec Return some" =>
    (k_fold; walk_at "exec Return some")
  k_with "exec Expr" =>
    (k_fold; walk_at "exec Expr")
  k_with "ltSkip" => skip
  trivial
section
variable {w : World} {loose : List Str} {mean : ExcName → Option Value} {mg mb : Str → Option Value} {base : Heap}
variable {h : Heap} {m : MA} {lc : Int} {lct : Tok} {mc : Int} {mct : Tok} {st ex : Value} {ts : List Value} {te : Nat} {lo : Obj} {ds : List Value} {de : Nat} {ls : List Value} {le : Nat} {ss zs : List Str}
theorem token_ok {x : Str} {t : Tok} (o : m.Ok) (hs : StrsAre ts ss) (hl : ts.length < 1000) (hx : x.length < 1000) (hk : kept x = false) :
    FP base h (mled w m lc lct mc mct st ex ts te lo ds de ls le) → Spec w loose mean mg mb base 256 [.ref m.x, .str x t] 3 h (mled w m lc lct mc mct st ex ts te lo ds de ls le)
      (fun v n => v = .none ∧ ∃ ts' te', n = mled w m lc lct mc mct st ex ts' te' lo ds de ls le ∧ StrsAre ts' (addTok ss x)) False := by
  obtain ⟨a1, a2, a3, a4, a5⟩ := o
  intro fp
  ktr_enter
  k_steps
  all_goals refine leaveC (by k_asm) (by k_asm) fun kp nw => ret _ _ _ _ kp nw ⟨rfl, _, _, rfl, ?_⟩
  all_goals first | exact addTok_new (by assumption) (by assumption) (by assumption) | exact addTok_old (by assumption) (by assumption) | exact addTok_err (by assumption) (by assumption)
theorem add_left_ok {x : Str} {t : Tok} (o : m.Ok) (hs : StrsAre ls zs) (hl : ls.length < 1000) :
    FP base h (mled w m lc lct mc mct st ex ts te lo ds de ls le) → Spec w loose mean mg mb base 284 [.ref m.x, .str x t] 2 h (mled w m lc lct mc mct st ex ts te lo ds de ls le)
      (fun v n => v = .none ∧ ∃ ls' le', n = mled w m lc lct mc mct st ex ts te lo ds de ls' le' ∧ StrsAre ls' (addNew zs x)) False := by
  obtain ⟨a1, a2, a3, a4, a5⟩ := o
  intro fp
  ktr_enter
  k_steps
  all_goals refine leaveC (by k_asm) (by k_asm) fun kp nw => ret _ _ _ _ kp nw ⟨rfl, _, _, rfl, ?_⟩
  all_goals first | exact addNew_new (by assumption) (by assumption) | exact addNew_old (by assumption) (by assumption)
theorem use_ok {x : Str} {t : Tok} (o : m.Ok) (hs : StrsAre ts ss) (hl : ts.length < 1000) (hx : x.length < 1000) (hk : kept x = false) :
    FP base h (mled w m lc lct mc mct st ex ts te lo ds de ls le) → Spec w loose mean mg mb base 291 [.ref m.x, .str x t] 4 h (mled w m lc lct mc mct st ex ts te lo ds de ls le)
      (fun v n => v = .none ∧ ∃ ts' te', n = mled w m lc lct mc mct st ex ts' te' lo ds de ls le ∧ StrsAre ts' (useTok ss x)) False := by
  have o' := o
  obtain ⟨a1, a2, a3, a4, a5⟩ := o
  intro fp
  ktr_enter
  k_steps
  all_goals refine leaveC (by k_asm) (by k_asm) fun kp nw => ret _ _ _ _ kp nw ⟨rfl, _, _, rfl, ?_⟩
  all_goals first | exact useTok_new (by assumption) (by assumption) | exact useTok_old (by assumption) (by assumption)
end
theorem words_B8 : True := by
  k_with_none
  k_with "ktr_room" =>
    ((try simp only [depth_under_make, depth_under_kw, depth_in1, depth_deeper]); (try dsimp only [Ar]); omega)
  k_with "ktr_units" =>
    ((try simp only [units_in1, units_deeper, Around.mark_units]); (try dsimp only [Ar]); omega)
  k_with "ktr_enter" =>
    (
      intro frs dp un gd s R hs G hap hd hu ret err
      subst hs
      have X := G.X
      have T := G.T
      k_dflt (
        refine' enterP G _ ?k1 hap ?k3 ?k4 ?k5 ?k6 ?k8 ?k7 ?_ ?c2 ?c3 ?c4 ?c5
        (case k3 => k_is)
        (case k4 => k_is)
        (case k1 => assumption)
        (case k5 => omega)
        (case k6 => exact rfl)
        (case k8 => (refine' zr_of ?zra ?zrb; (case zra => (dsimp only [List.map_cons, List.map_nil]; try exact rfl)); (case zrb => first | exact zr1 | exact zr2 | exact zr3 | exact zr4 | exact zr5 | exact zr6 | exact zr7 | exact zr8)))
        (case k7 => exact locs rfl)
        (case c2 => exact rfl)
        (case c3 => exact rfl)
        (case c4 => exact rfl)
        (case c5 => decide)
        k_whole
        intro g' L' h' tk' gk' F' N' B' X' T'
        (try dsimp only [mled] at N')
        (try dsimp only)
        (try k_fold)))
  k_with "ktr_step" =>
    (
      intro frs dp un gd s R hs G hap hd hu ret err
      subst hs
      have X := G.X
      have T := G.T
      have Xs : (frag.heap_1 w.params).In s.heap := X.keeps G.st
      k_dflt (
        refine' enter G _ ?k1 hap ?k3 ?k4 ?k5 ?k6 ?k7 ?_ ?c2 ?c3 ?c4 ?c5
        (case k3 => k_is)
        (case k4 => k_is)
        (case k1 => assumption)
        (case k5 => omega)
        (case k6 => first | exact BindsTo.of_eq rfl | exact binds_K Xs rfl (by k_is) rfl rfl rfl)
        (case k7 => exact locs rfl)
        (case c2 => exact rfl)
        (case c3 => exact rfl)
        (case c4 => exact rfl)
        (case c5 => decide)
        k_whole
        intro g' L' h' gk' F' N' B' X' T'
        (try dsimp only [mled] at N')
        (try dsimp only)
        (try k_fold)))
  k_with "exec Raise some none" =>
    (k_dflt (refine' Raise_ge X T B' ?F X' T' ?d ?u ?a ?b ?c ?_; (case F => k_asm); (case d => ktr_room); (case u => ktr_units); (case a => exact rfl); (case b => exact rfl); (case c => exact rfl)))
  k_with "ktr_rel" =>
    (
      (case F => k_asm)
      (case N => k_asm)
      (case A => exact rfl)
      (case L => exact rfl)
      (case K => intro h9; cases h9)
      (case d => ktr_room)
      (case u => ktr_units)
      (case e => intro h9; cases h9)
      intro h' tk' F' N'
      (try k_sweep))
  k_with "ktn_open" =>
    first | exact Rm.head | (refine' Rm.tail ?b; (case b => ktn_open))
  k_with "tb_start" =>
    first | exact Pick.nil | (refine' Pick.cons ?a ?b; (case a => ktn_open); (case b => tb_start))
  k_with "k_memK" =>
    first | exact ne0 | (refine ne1 ?x ?_; (case x => ((try dsimp only); omega)); k_memK)
  k_with "k_allIn" =>
    first | exact True.intro | (refine And.intro ?h ?_; (case h => k_memK); k_allIn)
  k_with "tb_rel" =>
    (
      (case F => k_asm)
      (case N => k_asm)
      (case A => exact rfl)
      (case L => exact rfl)
      (case K => intro h9; cases h9)
      (case d => ktr_room)
      (case u => ktr_units)
      (case e => intro h9; cases h9)
      (case P => tb_start)
      (case ne => k_allIn))
  k_with "compareOp In str ref" =>
    (k_dflt (refine' in_list_strs ?l ?i ?_; (case l => exact isL (by k_asm) (by k_mem)); (case i => assumption)))
  k_with "compareOp NotIn str ref" =>
    (k_dflt (refine' notin_list_strs ?l ?i ?_; (case l => exact isL (by k_asm) (by k_mem)); (case i => assumption)))
  k_with "call builtin:list.append" =>
    (k_dflt (refine' append_L ?k1 ?k2 ?k3 ?z ?_; (case k1 => k_asm); (case k2 => k_asm); (case k3 => k_upd); (case z => first | omega | (simp only [List.length_append, List.length_cons, List.length_nil]; omega)); k_whole); intro h' F' N'; (try k_sweep))
  k_with "call ref" =>
    (k_dflt (
      (first
      | (refine' use0 (is_kept ?a) X T B' ?F ?N ?A ?L ?K ?d ?u ?_ ?e; (case a => assumption))
      | (refine' use0 (is_literal ?a) X T B' ?F ?N ?A ?L ?K ?d ?u ?_ ?e; (case a => assumption))
      | (refine' use0 (check_name ?a ?b) X T B' ?F ?N ?A ?L ?K ?d ?u ?_ ?e; (case a => assumption); (case b => assumption)))
      ktr_rel))
  k_with "call ref" =>
    (k_dflt (
      (refine' useP (token_ok ?o ?s ?l ?x ?k) X T B' ?F ?N ?A ?L ?K ?d ?u ?P ?ne ?_ ?e)
      (case o => assumption)
      (case x => assumption)
      tb_rel
      (case s => assumption)
      (case l => assumption)
      (case k => assumption)
      intro v' h' tk' news' F' N' hf' kp' po'
      obtain ⟨rfl, ts', te', rfl, hs'⟩ := po'
      simp only [List.cons_append, List.nil_append] at N'
      (try k_sweep)))
  k_with "call ref" =>
    (k_dflt (
      (refine' useP (use_ok ?o ?s ?l ?x ?k) X T B' ?F ?N ?A ?L ?K ?d ?u ?P ?ne ?_ ?e)
      (case o => assumption)
      (case x => assumption)
      tb_rel
      (case s => assumption)
      (case l => assumption)
      (case k => assumption)
      intro v' h' tk' news' F' N' hf' kp' po'
      obtain ⟨rfl, ts', te', rfl, hs'⟩ := po'
      simp only [List.cons_append, List.nil_append] at N'
      (try k_sweep)))
  k_with "call ref" =>
    (k_dflt (
      (refine' useP (add_left_ok ?o ?s ?l) X T B' ?F ?N ?A ?L ?K ?d ?u ?P ?ne ?_ ?e)
      (case o => assumption)
      tb_rel
      (case s => assumption)
      (case l => assumption)
      intro v' h' tk' news' F' N' hf' kp' po'
      obtain ⟨rfl, ls', le', rfl, hs'⟩ := po'
      simp only [List.cons_append, List.nil_append] at N'
      (try k_sweep)))
  k_with "k_room" =>
    ktr_room
  k_with "k_ne" =>
    (refine neN ?_; (try dsimp only); first | with_reducible exact Nat.ne_of_lt (by with_reducible assumption) | with_reducible exact Nat.ne_of_gt (by with_reducible assumption) | with_reducible assumption | with_reducible exact Ne.symm (by with_reducible assumption) | omega)
  k_with "k_memK" =>
    first | exact ne0 | (refine ne1 ?kmx ?_; (case kmx => k_ne); k_memK)
  k_with "ktr_room" =>
    ((try simp only [depth_under_make, depth_under_kw, depth_in1, depth_deeper]); (try dsimp only [Ar]); first | exact room1 (by with_reducible assumption) (by decide) | exact room2 (by with_reducible assumption) (by decide) | omega)
  k_with "ktr_units" =>
    ((try simp only [units_in1, units_deeper, Around.mark_units]); (try dsimp only [Ar]); first | exact units1 (by with_reducible assumption) (by decide) | exact units2 (by with_reducible assumption) (by decide) | exact units3 (by with_reducible assumption) (by decide) | omega)
  k_with "kat_tups" =>
    first | with_reducible_and_instances exact List.Mem.head _ | (refine List.Mem.tail _ ?_; kat_tups) | (refine List.mem_append.mpr (Or.inl ?_); kat_tups) | (refine List.mem_append.mpr (Or.inr ?_); kat_tups) | with_reducible assumption | with_reducible_and_instances exact hq | ((with_reducible show List.Mem _ _); with_reducible_and_instances assumption)
  k_with "top_args" =>
    first | exact List.forall_mem_nil _ | (refine List.forall_mem_cons.mpr (And.intro ?_ ?_); kat_tups; top_args) | (refine List.forall_mem_append.mpr (And.intro ?_ ?_); top_args; top_args) | (intro q hq; kat_tups)
  k_with "mem_news" =>
    first | ((with_reducible_and_instances (repeat (first | exact List.Mem.head _ | refine List.Mem.tail _ ?_))); done) | ((with_reducible show _ ∈ _); kat_tups) | ((try dsimp only [penL, booksL, mled, List.cons_append, List.nil_append]); top_args)
  k_with "ltD" =>
    first | with_reducible assumption | exact lt_l1 (by with_reducible assumption) (by kat_tups) | omega
  k_with "k_ne" =>
    (refine neN ?_; (try dsimp only); first | with_reducible assumption | with_reducible exact Ne.symm (by with_reducible assumption) | with_reducible exact Nat.ne_of_lt (by with_reducible assumption) | with_reducible exact Nat.ne_of_gt (by with_reducible assumption) | exact ne_l1 (by with_reducible assumption) (by kat_tups) | exact Ne.symm (ne_l1 (by with_reducible assumption) (by kat_tups)) | exact ne_l1s (by with_reducible assumption) (by kat_tups) | exact Ne.symm (ne_l1s (by with_reducible assumption) (by kat_tups)) | exact ne_lt2 (by with_reducible assumption) (by with_reducible assumption) (by kat_tups) | exact Ne.symm (ne_lt2 (by with_reducible assumption) (by with_reducible assumption) (by kat_tups)) | exact Anew.ne (by with_reducible assumption) (by kat_tups) | exact Ne.symm (Anew.ne (by with_reducible assumption) (by kat_tups)) | omega)
  k_with "k_all" =>
    first | exact List.forall_mem_nil _ | with_reducible assumption | exact tail_l1 (by with_reducible assumption) (by intro q hq; kat_tups) | (refine' List.forall_mem_cons.mpr ⟨?kaa, ?kab⟩; (case kaa => k_ne); (case kab => k_all))
  k_with "k_allIn" =>
    first | exact True.intro | with_reducible assumption | ((with_reducible refine AllNe.app ?_ ?_) <;> k_allIn) | (refine And.intro ?kah ?_; (case kah => k_memK); k_allIn)
  k_with "useC" =>
    (
      (case F => k_asm)
      (case N => k_asm)
      (case A => exact rfl)
      (case L => exact rfl)
      (case K => intro h9; cases h9)
      (case d => ktr_room)
      (case u => ktr_units)
      (case P => tb_start)
      (case ne => k_allIn))
  k_with "dipC" =>
    (
      (case ta => with_reducible assumption)
      (case tb => assumption)
      (case tc => assumption)
      k_extra "useC"
      (case tg => first | with_reducible assumption | omega)
      (case th => first | exact PB.lt6 (by with_reducible assumption) (by with_reducible assumption) (by decide) | exact PB.lt (by with_reducible assumption) (by with_reducible assumption) (by decide) | omega)
      (case ti => first | with_reducible assumption | omega))
  k_with "pbStep" =>
    (have hPB := PB.step (by with_reducible assumption) hp1)
  k_with "eval Tuple" =>
    (k_fold; walk_at "eval Tuple")
  k_with "eval List" =>
    (k_fold; walk_at "eval List")
  k_with "eval BinOp" =>
    (k_fold; walk_at "eval BinOp")
  k_with "eval Call" =>
    (k_fold; walk_at "eval Call")
  k_with "eval Subscript" =>
    (k_fold; walk_at "eval Subscript")
  k_with "execs cons" =>
    (k_fold; walk_at "execs cons")
  k_with "exec If" =>
    (k_fold; walk_at "exec If")
  k_with "exec Assign" =>
    (k_fold; walk_at "exec Assign")
  k_with "exec Return some" =>
    (k_fold; walk_at "exec Return some")
  k_with "exec Expr" =>
    (k_fold; walk_at "exec Expr")
  k_with "ltSkip" => skip
  trivial
section
variable {w : World} {loose : List Str} {mean : ExcName → Option Value} {mg mb : Str → Option Value} {base : Heap}
variable {h : Heap} {m : MA} {lc : Int} {lct : Tok} {mc : Int} {mct : Tok} {st ex : Value} {ts : List Value} {te : Nat} {lo : Obj} {ds : List Value} {de : Nat} {ls : List Value} {le : Nat} {ss zs : List Str}
theorem set_start_ok {x : Str} {t : Tok} (o : m.Ok) (hx : x.length < 1000) (hk : kept x = false) :
    FP base h (mled w m lc lct mc mct .none ex ts te lo ds de ls le) → Spec w loose mean mg mb base 270 [.ref m.x, .str x t] 3 h (mled w m lc lct mc mct .none ex ts te lo ds de ls le)
      (fun v n => v = .none ∧ n = mled w m lc lct mc mct (.str x t) ex ts te lo ds de ls le) False := by
  obtain ⟨a1, a2, a3, a4, a5⟩ := o
  intro fp
  ktr_enter
  k_steps
  all_goals refine leaveC (by k_asm) (by k_asm) fun kp nw => ret _ _ _ _ kp nw ⟨rfl, rfl⟩
theorem set_expect_ok {x : Int} {t : Tok} (o : m.Ok) :
    FP base h (mled w m lc lct mc mct st .none ts te lo ds de ls le) → Spec w loose mean mg mb base 277 [.ref m.x, .int x t] 2 h (mled w m lc lct mc mct st .none ts te lo ds de ls le)
      (fun v n => v = .none ∧ n = mled w m lc lct mc mct st (.int x t) ts te lo ds de ls le) False := by
  obtain ⟨a1, a2, a3, a4, a5⟩ := o
  intro fp
  ktr_enter
  k_steps
  all_goals refine leaveC (by k_asm) (by k_asm) fun kp nw => ret _ _ _ _ kp nw ⟨rfl, rfl⟩
end
section
variable {prog : Program} {w : World} {A : Around} {E : Value → Shared → Prop} {env : Env} {h₀ : Heap} {target : PySem.Expr} {body : List Stmt} {Q : Flow → Shared → Prop}

/-- a turn's end -/
noncomputable def TEnd (h₀ : Heap) (L : Addr) (J' : (Str → Option Value) → List (Addr × Obj) → Prop) (I : Addr) (oI : Obj) (s₁ s₂ : Shared) : Prop :=
  ∃ h' tk m' nx', s₂ = { s₁ with heap := h', toks := tk } ∧ Fr h₀ L h' m' ∧ News h₀ L h' ((I, oI) :: nx') ∧ (∀ q ∈ nx', q.1 ≠ I) ∧ J' m' nx'
theorem tEnd {L : Addr} {J' : (Str → Option Value) → List (Addr × Obj) → Prop} {I : Addr} {oI : Obj} {s₁ : Shared} {h' : Heap} {tk : Nat} {m' : Str → Option Value} {nx' : List (Addr × Obj)} (F : Fr h₀ L h' m') (N : News h₀ L h' ((I, oI) :: nx')) (hn : ∀ q ∈ nx', q.1 ≠ I) (hj : J' m' nx') :
    TEnd h₀ L J' I oI s₁ { s₁ with heap := h', toks := tk } := ⟨h', tk, m', nx', rfl, F, N, hn, hj⟩
noncomputable def TPost (h₀ : Heap) (L : Addr) (J' : (Str → Option Value) → List (Addr × Obj) → Prop) (I : Addr) (oI : Obj) (s₁ : Shared) (Q : Flow → Shared → Prop) (f : Flow) (s₂ : Shared) : Prop := match f with
  | .ret v => Q (.ret v) s₂
  | .brk => Q .next s₂
  | _ => TEnd h₀ L J' I oI s₁ s₂

/-- where a loop's source is at hand -/
noncomputable def IterAt (prog : Program) (w : World) (A : Around) (env : Env) (target : PySem.Expr) (body : List Stmt) (Q : Flow → Shared → Prop) (E : Value → Shared → Prop) (x : Value) (s₁ : Shared) : Prop :=
  wpAny (model prog w) A (pyIter x) (fun it s₂ => codeAny (model prog w) A (.forLoop target it body [] env) (fun r s' => match r with | .ok f => Q f s' | .error e => cameBackBy (model prog w) A env E e s') s₂) E s₁

theorem For_own {s : Shared} {iter : PySem.Expr} {pos : Pos}
    (h : wpAny (model prog w) A (PySem.eval iter env) (fun x s₁ => IterAt prog w A env target body Q E x s₁) E s)
    (hs : ∀ x, foldedSetIterable iter env x = pure x) :
    wpAny (model prog w) A (PySem.exec (.For target iter body [] pos) env) Q E s := wpAny_For h hs

theorem loopW {s : Shared} {I : Addr} {fp : List Addr} {n : Nat} {P : Nat → Value → Prop} {St : Nat → Heap → Prop} {m₀ : Str → Option Value} {nx₀ : List (Addr × Obj)} {oI₀ : Obj} (J : Nat → (Str → Option Value) → List (Addr × Obj) → Prop)
    (W : Walks prog w A I fp [I] n P St) (hE : PassesOwn (model prog w) A env E) (hgo : ∀ i v (s : Shared) (Q : Unit → Shared → Prop) (E : Value → Shared → Prop), St i s.heap → Q () s → wpAny (model prog w) A (letOwnedTupleGo target (.ref I) v) Q E s)
    (hlive : ∀ i h, St i h → ∃ o, h.get? I = some o)
    (F : Fr h₀ env.locals s.heap m₀) (N : News h₀ env.locals s.heap ((I, oI₀) :: nx₀)) (hI : ∀ q ∈ nx₀, q.1 ≠ I) (hst : St 0 s.heap) (hj : J 0 m₀ nx₀)
    (hkeepJ : ∀ b ∈ fp, b ≠ I → (∃ o, h₀.get? b = some o) ∨ ∃ o, ∀ i m nx, J i m nx → (b, o) ∈ nx)
    (turn : ∀ i v m₁ nx h tk oI, i < n → P i v → J i m₁ nx → (∀ q ∈ nx, q.1 ≠ I) → Fr h₀ env.locals h m₁ → News h₀ env.locals h ((I, oI) :: nx) →
      wpAny (model prog w) A (assign target env v) (fun _ s₂ => wpAny (model prog w) A (PySem.execs body env) (TPost h₀ env.locals (J (i + 1)) I oI { s with heap := h, toks := tk } Q) E s₂) E { s with heap := h, toks := tk })
    (done : ∀ m₁ nx h tk, J n m₁ nx → Fr h₀ env.locals h m₁ → News h₀ env.locals h nx → Q .next { s with heap := h, toks := tk }) :
    codeAny (model prog w) A (.forLoop target (.ref I) body [] env) (fun r s' => match r with | .ok f => Q f s' | .error e => cameBackBy (model prog w) A env E e s') s := by
  have live : ∀ (h : Heap) (m₁ : Str → Option Value) (nx : List (Addr × Obj)), Fr h₀ env.locals h m₁ → News h₀ env.locals h nx → ∀ h', (∀ b o, b ∉ [I] → h.get? b = some o → h'.get? b = some o) → (∀ q ∈ nx, q.1 ≠ I) → I ≠ env.locals → h₀.get? I = none →
      Fr h₀ env.locals h' m₁ ∧ News h₀ env.locals h' nx := fun h m₁ nx F N h' k hn hL h0 => by
    have k' : ∀ b o, b ≠ I → h.get? b = some o → h'.get? b = some o := fun b o hb e => k b o (fun q => hb (List.mem_singleton.mp q)) e
    obtain ⟨oL, es, ep, hoL, r⟩ := F.ns
    exact ⟨⟨⟨oL, es, ep, k' _ _ (Ne.symm hL) hoL, r⟩, fun b o e => k' _ _ (fun q => by rw [q, h0] at e; cases e) (F.keep b o e), F.above⟩, fun p hp => ⟨k' _ _ (hn p hp) (N p hp).1, (N p hp).2⟩⟩
  have hIL := (N _ (.head _)).2.1
  have hI0 := (N _ (.head _)).2.2
  refine codeAny_forLoop_any (fun k s₁ => ∃ i h tk m₁ nx oI, k = n - i ∧ i ≤ n ∧ s₁ = { s with heap := h, toks := tk } ∧ St i h ∧ J i m₁ nx ∧ (∀ q ∈ nx, q.1 ≠ I) ∧ Fr h₀ env.locals h m₁ ∧ News h₀ env.locals h ((I, oI) :: nx)) ?_ n
    ⟨0, s.heap, s.toks, m₀, nx₀, oI₀, by omega, Nat.zero_le _, rfl, hst, hj, hI, F, N⟩
  rintro k s₁ ⟨i, h, tk, m₁, nx, oI, rfl, hi, rfl, hst', hj', hn', F', N'⟩
  have Nn : News h₀ env.locals h nx := fun p hp => N' p (.tail _ hp)
  rcases Nat.lt_or_ge i n with hlt | hge
  · refine W.item i _ _ _ hlt hst' fun v h' tk' hP hst2 hk => ?_
    obtain ⟨F2, N2⟩ := live h m₁ nx F' Nn h' hk hn' hIL hI0
    obtain ⟨oI2, hoI2⟩ := hlive _ _ hst2
    have N3 : News h₀ env.locals h' ((I, oI2) :: nx) := fun p hp => by
      rcases List.mem_cons.mp hp with rfl | hp
      · exact ⟨hoI2, hIL, hI0⟩
      · exact N2 p hp
    refine hgo (i + 1) v _ _ _ hst2 ?_
    refine wpAny_passesOwn hE (wpAny_mono (turn i v m₁ nx h' tk' oI2 hlt hP hj' hn' F2 N3) (fun _ s₂ h₂ => wpAny_passesOwn hE (wpAny_mono h₂ (fun f s₃ h₃ => ?_) fun _ _ y => y)) fun _ _ y => y)
    have fin : TEnd h₀ env.locals (J (i + 1)) I oI2 { s with heap := h', toks := tk' } s₃ → ∃ m, m < n - i ∧ ∃ i h tk m₁ nx oI, m = n - i ∧ i ≤ n ∧ s₃ = { s with heap := h, toks := tk } ∧ St i h ∧ J i m₁ nx ∧ (∀ q ∈ nx, q.1 ≠ I) ∧ Fr h₀ env.locals h m₁ ∧ News h₀ env.locals h ((I, oI) :: nx) := by
      rintro ⟨h3, tk3, m3, nx3, rfl, F3, N3', hn3, hj3⟩
      refine ⟨n - (i + 1), by omega, i + 1, h3, tk3, m3, nx3, oI2, rfl, hlt, rfl, W.frame _ _ _ hst2 (fun b hb o e => ?_), hj3, hn3, F3, N3'⟩
      by_cases q : b = I
      · subst q; rw [hoI2] at e; cases e; exact (N3' _ (.head _)).1
      · rcases hkeepJ b hb q with ⟨o', ho'⟩ | ⟨o', ho'⟩
        · have z := F2.keep _ _ ho'
          rw [e] at z; cases z; exact F3.keep _ _ ho'
        · have z := (N2 _ (ho' _ _ _ hj')).1
          dsimp only at z
          rw [e] at z; cases z
          exact (N3' _ (.tail _ (ho' _ _ _ hj3))).1
    cases f with
    | ret v => exact h₃
    | brk => exact h₃
    | next => exact fin h₃
    | cont => exact fin h₃
  · obtain rfl : i = n := Nat.le_antisymm hi hge
    refine W.done _ _ _ hst' fun h' tk' hk => ?_
    obtain ⟨F2, N2⟩ := live h m₁ nx F' Nn h' hk hn' hIL hI0
    show wpAny (model prog w) A (PySem.execs [] env) _ _ _
    unfold PySem.execs
    exact wpAny_pure (done m₁ nx h' tk' hj' F2 N2)

theorem go_of {ht : ∀ v I, letOwnedTupleGo target (.ref I) v = pure ()} {v : Value} {I : Addr} {s : Shared} {Q : Unit → Shared → Prop} {E : Value → Shared → Prop} (hQ : Q () s) : wpAny (model prog w) A (letOwnedTupleGo target (.ref I) v) Q E s := by
  rw [ht]; exact wpAny_pure hQ
theorem go_list {v : Value} {I l : Addr} {i : Nat} {s : Shared} {Q : Unit → Shared → Prop} {E : Value → Shared → Prop} (ht : (∀ v I, letOwnedTupleGo target (.ref I) v = pure ()) ∨ ∃ e x p, target = .Tuple e x p) (hit : s.heap.IsListIter I l i) (hQ : Q () s) : wpAny (model prog w) A (letOwnedTupleGo target (.ref I) v) Q E s := by
  rcases ht with ht | ⟨e, x, p, rfl⟩
  · rw [ht]; exact wpAny_pure hQ
  · cases v with
    | ref a => exact wpAny_letOwnedTupleGo_listiter hit hQ
    | _ => exact wpAny_pure hQ
/-- a loop over a list that the base holds -/
theorem loopB {s : Shared} {l : Addr} {vs : List Value} {m₀ : Str → Option Value} {nx₀ : List (Addr × Obj)} (J : Nat → (Str → Option Value) → List (Addr × Obj) → Prop)
    (hh : A.handled = none) (hl : h₀.IsList l vs.toArray) (hE : PassesOwn (model prog w) A env E) (ht : (∀ v I, letOwnedTupleGo target (.ref I) v = pure ()) ∨ ∃ e x p, target = .Tuple e x p)
    (F : Fr h₀ env.locals s.heap m₀) (N : News h₀ env.locals s.heap nx₀) (hj : J 0 m₀ nx₀)
    (turn : ∀ i v m₁ nx h tk I oI, vs[i]? = some v → J i m₁ nx → (∀ q ∈ nx, q.1 ≠ I) → Fr h₀ env.locals h m₁ → News h₀ env.locals h ((I, oI) :: nx) →
      wpAny (model prog w) A (assign target env v) (fun _ s₂ => wpAny (model prog w) A (PySem.execs body env) (TPost h₀ env.locals (J (i + 1)) I oI { s with heap := h, toks := tk } Q) E s₂) E { s with heap := h, toks := tk })
    (done : ∀ m₁ nx h tk, J vs.length m₁ nx → Fr h₀ env.locals h m₁ → News h₀ env.locals h nx → Q .next { s with heap := h, toks := tk }) :
    IterAt prog w A env target body Q E (.ref l) s := by
  have hls : s.heap.IsList l vs.toArray := hl.at fun o e => F.keep l o e
  obtain ⟨ol, hol, hol2⟩ := id hl
  have hne : l ≠ s.heap.objs.size := Nat.ne_of_lt (Nat.lt_trans (Nat.lt_of_lt_of_le (Heap.lt_size hol) F.above) F.ns.lt)
  refine wpAny_pyIter_list hls ?_
  have W := Walks.list (prog := prog) (w := w) hh s.heap.objs.size l hne vs.toArray
  have hI0 : h₀.get? s.heap.objs.size = none := none_at_size F
  refine loopW (s := { s with heap := s.heap.push { cls := .type "list_iterator", data := .fields #[.ref l, .int 0 0] } }) (oI₀ := { cls := .type "list_iterator", data := .fields #[.ref l, .int 0 0] }) J W hE (fun i v s Q E st hQ => go_list ht st.1 hQ) (fun i h st => ?_) (F.push _) (fun p hp => ?_) (fun q hq e => ?_) ⟨⟨_, Heap.get?_push_size _ rfl, rfl, rfl⟩, hls.at fun o e => Heap.get?_push_of_some _ e⟩ hj (fun b hb hbI => ?_)
    (fun i v m₁ nx h tk oI hi hP hJ hn F1 N1 => turn i v m₁ nx h tk _ oI (by simpa using hP) hJ hn F1 N1) (fun m₁ nx h tk hJ F1 N1 => done m₁ nx h tk (by simpa using hJ) F1 N1)
  · obtain ⟨o, ho, _⟩ := st.1; exact ⟨o, ho⟩
  · rcases List.mem_cons.mp hp with rfl | hp
    · exact ⟨Heap.get?_push_size _ rfl, Nat.ne_of_gt F.ns.lt, hI0⟩
    · exact ⟨Heap.get?_push_of_some _ (N p hp).1, (N p hp).2⟩
  · exact absurd (Heap.lt_size (N q hq).1) (e ▸ Nat.lt_irrefl _)
  · rcases List.mem_cons.mp hb with rfl | hb
    · exact absurd rfl hbI
    · rw [List.mem_singleton.mp hb]; exact .inl ⟨ol, hol⟩

theorem fits62 (x : Int) (h0 : 0 ≤ x) (h1 : x < 2 ^ 62) : Builtin.Range.rangeFitsLong x = true := by
  unfold Builtin.Range.rangeFitsLong
  rw [Bool.and_eq_true, decide_eq_true_eq, decide_eq_true_eq]
  omega
/-- a loop over range(n) -/
theorem loopR {s : Shared} {r : Addr} {t₀ u₀ v₀ : Tok} {n : Nat} {m₀ : Str → Option Value} {nx₀ : List (Addr × Obj)} (J : Nat → (Str → Option Value) → List (Addr × Obj) → Prop)
    (hh : A.handled = none) (hr : IsRange s.heap r 0 (n : Int) 1 t₀ u₀ v₀) (hsmall : n < 2 ^ 62) (hE : PassesOwn (model prog w) A env E) (ht : ∀ v I, letOwnedTupleGo target (.ref I) v = pure ())
    (F : Fr h₀ env.locals s.heap m₀) (N : News h₀ env.locals s.heap nx₀) (hj : J 0 m₀ nx₀)
    (turn : ∀ i t m₁ nx h tk I oI, i < n → J i m₁ nx → (∀ q ∈ nx, q.1 ≠ I) → Fr h₀ env.locals h m₁ → News h₀ env.locals h ((I, oI) :: nx) →
      wpAny (model prog w) A (assign target env (.int (i : Int) t)) (fun _ s₂ => wpAny (model prog w) A (PySem.execs body env) (TPost h₀ env.locals (J (i + 1)) I oI { s with heap := h, toks := tk } Q) E s₂) E { s with heap := h, toks := tk })
    (done : ∀ m₁ nx h tk, J n m₁ nx → Fr h₀ env.locals h m₁ → News h₀ env.locals h nx → Q .next { s with heap := h, toks := tk }) :
    IterAt prog w A env target body Q E (.ref r) s := by
  have hn : Builtin.Range.rangeSize 0 (n : Int) 1 = (n : Int) := by
    rw [rangeSize_nat]; omega
  have hs : Builtin.Range.small 0 (n : Int) 1 = true := by
    unfold Builtin.Range.small
    rw [hn, fits62 0 (by omega) (by omega), fits62 n (by omega) (by omega), fits62 1 (by omega) (by omega), if_pos (by omega), show (n : Int) + (1 - 1) = n by omega, fits62 n (by omega) (by omega), Bool.or_true]; rfl
  refine wpAny_pyIter_range hr hs ?_
  have W : Walks prog w A s.heap.objs.size [s.heap.objs.size] [s.heap.objs.size] n (fun i v => i < n ∧ ∃ t, v = .int (0 + i * 1) t)
      (fun i h => IsRangeIter h s.heap.objs.size (0 + (i : Nat) * 1) ((n : Int) - (i : Nat)) 1) := (Walks.range hh _ 0 1 n).bound
  have hI0 : h₀.get? s.heap.objs.size = none := none_at_size F
  refine loopW (s := { s with heap := s.heap.push { cls := .type "range_iterator", data := .fields #[rawInt 0, rawInt (Builtin.Range.rangeSize 0 (n : Int) 1), rawInt 1] } }) (oI₀ := { cls := .type "range_iterator", data := .fields #[rawInt 0, rawInt (Builtin.Range.rangeSize 0 (n : Int) 1), rawInt 1] }) J W hE (fun i v s Q E st hQ => go_of (ht := ht) hQ) (fun i h st => ⟨_, st⟩) (F.push _) (fun p hp => ?_) (fun q hq e => ?_) (by show IsRangeIter _ _ _ _ _; rw [hn]; simpa using Heap.get?_push_size _ rfl) hj (fun b hb hbI => absurd (List.mem_singleton.mp hb) hbI)
    (fun i v m₁ nx h tk oI hi hP hJ hn F1 N1 => ?_) (fun m₁ nx h tk hJ F1 N1 => done m₁ nx h tk hJ F1 N1)
  · rcases List.mem_cons.mp hp with rfl | hp
    · exact ⟨Heap.get?_push_size _ rfl, Nat.ne_of_gt F.ns.lt, hI0⟩
    · exact ⟨Heap.get?_push_of_some _ (N p hp).1, (N p hp).2⟩
  · exact absurd (Heap.lt_size (N q hq).1) (e ▸ Nat.lt_irrefl _)
  · obtain ⟨_, t, rfl⟩ := hP
    have e1 : (0 : Int) + (i : Int) * 1 = (i : Int) := by omega
    rw [e1]
    exact turn i t m₁ nx h tk _ oI hi hJ hn F1 N1
end

abbrev Part := Str × Str
abbrev Mp := Addr → Obj → Prop
abbrev inh (h : Heap) : Mp := fun a o => h.get? a = some o
abbrev inl (l : List (Addr × Obj)) : Mp := fun a o => (a, o) ∈ l
inductive All2 {α β : Type} (R : α → β → Prop) : List α → List β → Prop
  | nil : All2 R [] []
  | cons {a b as bs} : R a b → All2 R as bs → All2 R (a :: as) (b :: bs)
theorem All2.mono {α β : Type} {R R' : α → β → Prop} {as : List α} {bs : List β} (h : All2 R as bs) (m : ∀ a b, R a b → R' a b) : All2 R' as bs := by
  induction h with
  | nil => exact .nil
  | cons a _ ih => exact .cons (m _ _ a) ih
theorem All2.len {α β : Type} {R : α → β → Prop} {as : List α} {bs : List β} (h : All2 R as bs) : as.length = bs.length := by
  induction h with
  | nil => rfl
  | cons _ _ ih => simp [ih]
theorem All2.at {α β : Type} {R : α → β → Prop} {as : List α} {bs : List β} (h : All2 R as bs) : ∀ (i : Nat) (a : α), as[i]? = some a → ∃ b, bs[i]? = some b ∧ R a b := by
  induction h with
  | nil => intro i a e; simp at e
  | cons r _ ih =>
    intro i a e
    cases i with
    | zero => simp at e; subst e; exact ⟨_, rfl, r⟩
    | succ i => simp at e; obtain ⟨b, e', r'⟩ := ih i a e; exact ⟨b, by simpa using e', r'⟩
theorem All2.append {α β : Type} {R : α → β → Prop} {as as' : List α} {bs bs' : List β} (h : All2 R as bs) (h' : All2 R as' bs') : All2 R (as ++ as') (bs ++ bs') := by
  induction h with
  | nil => exact h'
  | cons r _ ih => exact .cons r ih
abbrev tupO (xs : List Value) : Obj := { cls := .type "tuple", data := .seq xs.toArray }
noncomputable def PartOn (P : Mp) (v : Value) (p : Part) : Prop := ∃ a t1 t2, v = .ref a ∧ P a (tupO [.str p.1 t1, .str p.2 t2])
noncomputable def PartsOn (P : Mp) (vs : List Value) (ps : List Part) : Prop := All2 (PartOn P) vs ps
theorem PartOn.mono {P P' : Mp} (m : ∀ a o, P a o → P' a o) {v : Value} {p : Part} : PartOn P v p → PartOn P' v p := fun ⟨a, t1, t2, e, q⟩ => ⟨a, t1, t2, e, m _ _ q⟩
theorem PartsOn.mono {P P' : Mp} (m : ∀ a o, P a o → P' a o) {vs : List Value} {ps : List Part} (h : PartsOn P vs ps) : PartsOn P' vs ps := All2.mono h fun _ _ => PartOn.mono m
/-- a value that is None or a str -/
inductive OptS : Value → Option Str → Prop
  | none : OptS .none none
  | some (x : Str) (t : Tok) : OptS (.str x t) (some x)
noncomputable def partBad (p : Part) : Bool := if p.1 == Str.ofString "sym" then kept p.2 else p.1 != Str.ofString "act"
noncomputable def crOk (left : Str) (ps : List Part) (prec : Option Str) : Bool := !kept left && ps.all (fun p => !partBad p) && !(prec.any kept)
theorem words_B10 : True := by
  k_with_none
  k_with "ktr_room" =>
    ((try simp only [depth_under_make, depth_under_kw, depth_in1, depth_deeper]); (try dsimp only [Ar]); omega)
  k_with "ktr_units" =>
    ((try simp only [units_in1, units_deeper, Around.mark_units]); (try dsimp only [Ar]); omega)
  k_with "ktr_enter" =>
    (
      intro frs dp un gd s R hs G hap hd hu ret err
      subst hs
      have X := G.X
      have T := G.T
      k_dflt (
        refine' enterP G _ ?k1 hap ?k3 ?k4 ?k5 ?k6 ?k8 ?k7 ?_ ?c2 ?c3 ?c4 ?c5
        (case k3 => k_is)
        (case k4 => k_is)
        (case k1 => assumption)
        (case k5 => omega)
        (case k6 => exact rfl)
        (case k8 => (refine' zr_of ?zra ?zrb; (case zra => (dsimp only [List.map_cons, List.map_nil]; try exact rfl)); (case zrb => first | exact zr1 | exact zr2 | exact zr3 | exact zr4 | exact zr5 | exact zr6 | exact zr7 | exact zr8)))
        (case k7 => exact locs rfl)
        (case c2 => exact rfl)
        (case c3 => exact rfl)
        (case c4 => exact rfl)
        (case c5 => decide)
        k_whole
        intro g' L' h' tk' gk' F' N' B' X' T'
        (try dsimp only [mled] at N')
        (try dsimp only)
        (try k_fold)))
  k_with "ktr_step" =>
    (
      intro frs dp un gd s R hs G hap hd hu ret err
      subst hs
      have X := G.X
      have T := G.T
      have Xs : (frag.heap_1 w.params).In s.heap := X.keeps G.st
      k_dflt (
        refine' enter G _ ?k1 hap ?k3 ?k4 ?k5 ?k6 ?k7 ?_ ?c2 ?c3 ?c4 ?c5
        (case k3 => k_is)
        (case k4 => k_is)
        (case k1 => assumption)
        (case k5 => omega)
        (case k6 => first | exact BindsTo.of_eq rfl | exact binds_K Xs rfl (by k_is) rfl rfl rfl)
        (case k7 => exact locs rfl)
        (case c2 => exact rfl)
        (case c3 => exact rfl)
        (case c4 => exact rfl)
        (case c5 => decide)
        k_whole
        intro g' L' h' gk' F' N' B' X' T'
        (try dsimp only [mled] at N')
        (try dsimp only)
        (try k_fold)))
  k_with "exec Raise some none" =>
    (k_dflt (refine' Raise_ge X T B' ?F X' T' ?d ?u ?a ?b ?c ?_; (case F => k_asm); (case d => ktr_room); (case u => ktr_units); (case a => exact rfl); (case b => exact rfl); (case c => exact rfl)))
  k_with "k_room" =>
    ktr_room
  k_with "call type:range" =>
    (k_dflt (refine' range1_rows ?F ?N ?_; (case F => k_asm); (case N => k_asm); intro h' tk' t1' u1' v1' R' F' N' kp'))
  k_with "exec For" =>
    (k_dflt (refine' For_own ?_ ?s; (case s => intro _; rfl)))
  k_with "ktr_rel" =>
    (
      (case F => k_asm)
      (case N => k_asm)
      (case A => exact rfl)
      (case L => exact rfl)
      (case K => intro h9; cases h9)
      (case d => ktr_room)
      (case u => ktr_units)
      (case e => intro h9; cases h9)
      intro h' tk' F' N'
      (try k_sweep))
  k_with "ktn_open" =>
    first | exact Rm.head | (refine' Rm.tail ?b; (case b => ktn_open))
  k_with "tb_start" =>
    first | exact Pick.nil | (refine' Pick.cons ?a ?b; (case a => ktn_open); (case b => tb_start))
  k_with "k_memK" =>
    first | exact ne0 | (refine ne1 ?x ?_; (case x => ((try dsimp only); omega)); k_memK)
  k_with "k_allIn" =>
    first | exact True.intro | (refine And.intro ?h ?_; (case h => k_memK); k_allIn)
  k_with "tb_rel" =>
    (
      (case F => k_asm)
      (case N => k_asm)
      (case A => exact rfl)
      (case L => exact rfl)
      (case K => intro h9; cases h9)
      (case d => ktr_room)
      (case u => ktr_units)
      (case e => intro h9; cases h9)
      (case P => tb_start)
      (case ne => k_allIn))
  k_with "compareOp In str ref" =>
    (k_dflt (refine' in_list_strs ?l ?i ?_; (case l => exact isL (by k_asm) (by k_mem)); (case i => assumption)))
  k_with "compareOp NotIn str ref" =>
    (k_dflt (refine' notin_list_strs ?l ?i ?_; (case l => exact isL (by k_asm) (by k_mem)); (case i => assumption)))
  k_with "call builtin:list.append" =>
    (k_dflt (refine' append_L ?k1 ?k2 ?k3 ?z ?_; (case k1 => k_asm); (case k2 => k_asm); (case k3 => k_upd); (case z => first | omega | (simp only [List.length_append, List.length_cons, List.length_nil]; omega)); k_whole); intro h' F' N'; (try k_sweep))
  k_with "call ref" =>
    (k_dflt (
      (first
      | (refine' use0 (is_kept ?a) X T B' ?F ?N ?A ?L ?K ?d ?u ?_ ?e; (case a => assumption))
      | (refine' use0 (is_literal ?a) X T B' ?F ?N ?A ?L ?K ?d ?u ?_ ?e; (case a => assumption))
      | (refine' use0 (check_name ?a ?b) X T B' ?F ?N ?A ?L ?K ?d ?u ?_ ?e; (case a => assumption); (case b => assumption)))
      ktr_rel))
  k_with "call ref" =>
    (k_dflt (
      (refine' useP (token_ok ?o ?s ?l ?x ?k) X T B' ?F ?N ?A ?L ?K ?d ?u ?P ?ne ?_ ?e)
      (case o => assumption)
      (case x => assumption)
      tb_rel
      (case s => assumption)
      (case l => assumption)
      (case k => assumption)
      intro v' h' tk' news' F' N' hf' kp' po'
      obtain ⟨rfl, ts', te', rfl, hs'⟩ := po'
      simp only [List.cons_append, List.nil_append] at N'
      (try k_sweep)))
  k_with "call ref" =>
    (k_dflt (
      (refine' useP (use_ok ?o ?s ?l ?x ?k) X T B' ?F ?N ?A ?L ?K ?d ?u ?P ?ne ?_ ?e)
      (case o => assumption)
      (case x => assumption)
      tb_rel
      (case s => assumption)
      (case l => assumption)
      (case k => assumption)
      intro v' h' tk' news' F' N' hf' kp' po'
      obtain ⟨rfl, ts', te', rfl, hs'⟩ := po'
      simp only [List.cons_append, List.nil_append] at N'
      (try k_sweep)))
  k_with "call ref" =>
    (k_dflt (
      (refine' useP (add_left_ok ?o ?s ?l) X T B' ?F ?N ?A ?L ?K ?d ?u ?P ?ne ?_ ?e)
      (case o => assumption)
      tb_rel
      (case s => assumption)
      (case l => assumption)
      intro v' h' tk' news' F' N' hf' kp' po'
      obtain ⟨rfl, ls', le', rfl, hs'⟩ := po'
      simp only [List.cons_append, List.nil_append] at N'
      (try k_sweep)))
  k_with "boot_fact" =>
    first | exact (fun p hp => nomatch hp) | k_asm
  k_with "call ref" =>
    (k_dflt (
      (refine' useX (check_name_any ?a) X T B' ?F ?N ?A ?L ?K ?d ?u ?_ ?e)
      (case a => assumption)
      (case F => k_asm)
      (case N => k_asm)
      (case A => exact rfl)
      (case L => exact rfl)
      (case K => intro h9; cases h9)
      (case d => ktr_room)
      (case u => ktr_units)
      (case e => intro hx9 e9 h9 tk9 fl9; refine pass_out gk' (fun p hp => (fp p hp).1) (by k_asm) (by boot_fact) fl9 fun h2 f2 => err ?_ _ _ _ f2; nest_cls)
      intro h' tk' F' N' hx'
      (try k_sweep)))
  k_with "nest_cls" =>
    first | exact crOk_left hx9 | exact crOk_prec hx9 | exact crOk_part (by assumption) (pb_sym (by assumption) hx9) | exact crOk_part (by assumption) (pb_kind (by assumption) (by assumption))
  k_with "k_ne" =>
    (refine neN ?_; (try dsimp only); first | with_reducible exact Nat.ne_of_lt (by with_reducible assumption) | with_reducible exact Nat.ne_of_gt (by with_reducible assumption) | with_reducible assumption | with_reducible exact Ne.symm (by with_reducible assumption) | omega)
  k_with "k_memK" =>
    first | exact ne0 | (refine ne1 ?kmx ?_; (case kmx => k_ne); k_memK)
  k_with "ktr_room" =>
    ((try simp only [depth_under_make, depth_under_kw, depth_in1, depth_deeper]); (try dsimp only [Ar]); first | exact room1 (by with_reducible assumption) (by decide) | exact room2 (by with_reducible assumption) (by decide) | omega)
  k_with "ktr_units" =>
    ((try simp only [units_in1, units_deeper, Around.mark_units]); (try dsimp only [Ar]); first | exact units1 (by with_reducible assumption) (by decide) | exact units2 (by with_reducible assumption) (by decide) | exact units3 (by with_reducible assumption) (by decide) | omega)
  k_with "kat_tups" =>
    first | with_reducible_and_instances exact List.Mem.head _ | (refine List.Mem.tail _ ?_; kat_tups) | (refine List.mem_append.mpr (Or.inl ?_); kat_tups) | (refine List.mem_append.mpr (Or.inr ?_); kat_tups) | with_reducible assumption | with_reducible_and_instances exact hq | ((with_reducible show List.Mem _ _); with_reducible_and_instances assumption)
  k_with "top_args" =>
    first | exact List.forall_mem_nil _ | (refine List.forall_mem_cons.mpr (And.intro ?_ ?_); kat_tups; top_args) | (refine List.forall_mem_append.mpr (And.intro ?_ ?_); top_args; top_args) | (intro q hq; kat_tups)
  k_with "mem_news" =>
    first | ((with_reducible_and_instances (repeat (first | exact List.Mem.head _ | refine List.Mem.tail _ ?_))); done) | ((with_reducible show _ ∈ _); kat_tups) | ((try dsimp only [penL, booksL, mled, List.cons_append, List.nil_append]); top_args)
  k_with "ltD" =>
    first | with_reducible assumption | exact lt_l1 (by with_reducible assumption) (by kat_tups) | omega
  k_with "k_ne" =>
    (refine neN ?_; (try dsimp only); first | with_reducible assumption | with_reducible exact Ne.symm (by with_reducible assumption) | with_reducible exact Nat.ne_of_lt (by with_reducible assumption) | with_reducible exact Nat.ne_of_gt (by with_reducible assumption) | exact ne_l1 (by with_reducible assumption) (by kat_tups) | exact Ne.symm (ne_l1 (by with_reducible assumption) (by kat_tups)) | exact ne_l1s (by with_reducible assumption) (by kat_tups) | exact Ne.symm (ne_l1s (by with_reducible assumption) (by kat_tups)) | exact ne_lt2 (by with_reducible assumption) (by with_reducible assumption) (by kat_tups) | exact Ne.symm (ne_lt2 (by with_reducible assumption) (by with_reducible assumption) (by kat_tups)) | exact Anew.ne (by with_reducible assumption) (by kat_tups) | exact Ne.symm (Anew.ne (by with_reducible assumption) (by kat_tups)) | omega)
  k_with "k_all" =>
    first | exact List.forall_mem_nil _ | with_reducible assumption | exact tail_l1 (by with_reducible assumption) (by intro q hq; kat_tups) | (refine' List.forall_mem_cons.mpr ⟨?kaa, ?kab⟩; (case kaa => k_ne); (case kab => k_all))
  k_with "k_allIn" =>
    first | exact True.intro | with_reducible assumption | ((with_reducible refine AllNe.app ?_ ?_) <;> k_allIn) | (refine And.intro ?kah ?_; (case kah => k_memK); k_allIn)
  k_with "useC" =>
    (
      (case F => k_asm)
      (case N => k_asm)
      (case A => exact rfl)
      (case L => exact rfl)
      (case K => intro h9; cases h9)
      (case d => ktr_room)
      (case u => ktr_units)
      (case P => tb_start)
      (case ne => k_allIn))
  k_with "dipC" =>
    (
      (case ta => with_reducible assumption)
      (case tb => assumption)
      (case tc => assumption)
      k_extra "useC"
      (case tg => first | with_reducible assumption | omega)
      (case th => first | exact PB.lt6 (by with_reducible assumption) (by with_reducible assumption) (by decide) | exact PB.lt (by with_reducible assumption) (by with_reducible assumption) (by decide) | omega)
      (case ti => first | with_reducible assumption | omega))
  k_with "pbStep" =>
    (have hPB := PB.step (by with_reducible assumption) hp1)
  k_with "eval Tuple" =>
    (k_fold; walk_at "eval Tuple")
  k_with "eval List" =>
    (k_fold; walk_at "eval List")
  k_with "eval BinOp" =>
    (k_fold; walk_at "eval BinOp")
  k_with "eval Call" =>
    (k_fold; walk_at "eval Call")
  k_with "eval Subscript" =>
    (k_fold; walk_at "eval Subscript")
  k_with "execs cons" =>
    (k_fold; walk_at "execs cons")
  k_with "exec If" =>
    (k_fold; walk_at "exec If")
  k_with "exec Assign" =>
    (k_fold; walk_at "exec Assign")
  k_with "exec Return some" =>
    (k_fold; walk_at "exec Return some")
  k_with "exec Expr" =>
    (k_fold; walk_at "exec Expr")
  k_with "ltSkip" => skip
  trivial
section
variable {w : World} {loose : List Str} {mean : ExcName → Option Value} {mg mb : Str → Option Value} {base : Heap}
theorem useX {f : Addr} {args : List Value} {k : Nat} {val : Value} {P Exc : Prop} {s : Shared}
    {A A₀ : Around} {env : Env} {frs : List Env} {g : Heap} {L : Addr} {m : Str → Option Value} {news : List (Addr × Obj)} {Q E : Value → Shared → Prop} {dp un : Nat} {gd : Option (List Code)}
    (Sp : Spec w loose mean mg mb base f args k s.heap [] (fun v n => v = val ∧ n = [] ∧ P) Exc)
    (X : (frag.heap_1 w.params).In base) (T : Top view loose mean mg mb base) (B : Below A₀ base frs g) (F : Fr g L s.heap m) (N : News g L s.heap news)
    (hA : A = Ar dp un gd (env :: frs)) (hL : env.frame = some L) (hke : env.scope.kind ≠ .module) (hd : dp + k < recursionLimit) (hu : un + 8 * k < cLine)
    (ret : ∀ h' tk', Fr g L h' m → News g L h' news → P → Q val { s with heap := h', toks := tk' })
    (err : Exc → ∀ e h' tk', Fly s.heap (env :: frs) e h' → E (.ref e) { s with heap := h', toks := tk' }) :
    wpAny (model prg w) A (call (.ref f) args) Q E s :=
  use (rest := news) Sp X T B F N hA hL hke hd hu (fun _ hp => nomatch hp) (fun p hp => ⟨hp, fun q => nomatch q⟩)
    (fun v h' tk' news' F' N' _ _ po => by obtain ⟨rfl, rfl, hP⟩ := po; exact ret h' tk' F' N' hP) err
theorem check_name_any {h : Heap} {x : Str} {t : Tok} (hx : x.length < 1000) :
    Spec w loose mean mg mb base 207 [.str x t] 4 h [] (fun v n => v = .none ∧ n = [] ∧ kept x = false) (kept x = true) := by
  intro frs dp un gd s R hs G hap hd hu ret err
  cases hk : kept x with
  | false => exact check_name hx hk frs dp un gd s R hs G hap (by omega) (by omega) (fun v h' tk' n kp nw po => ret v h' tk' n kp nw ⟨po.1, po.2, hk⟩) (fun f => f.elim)
  | true => exact check_name_bad hx hk frs dp un gd s R hs G hap hd hu (fun _ _ _ _ _ _ f => f.elim) (fun _ => err hk)
theorem crOk_left {x : Str} {ps : List Part} {po : Option Str} (h : kept x = true) : crOk x ps po = false := by simp [crOk, h]
theorem crOk_part {x : Str} {ps : List Part} {po : Option Str} {i : Nat} {p : Part} (hi : ps[i]? = some p) (h : partBad p = true) : crOk x ps po = false := by
  have : ps.all (fun p => !partBad p) = false := by
    rw [List.all_eq_false]; exact ⟨p, List.mem_of_getElem? hi, by simp [h]⟩
  simp [crOk, this]
theorem crOk_prec {x y : Str} {ps : List Part} (h : kept y = true) : crOk x ps (some y) = false := by simp [crOk, h]
theorem pb_sym {p1 p2 : Str} (h : (p1 == Str.ofString "sym") = true) (k : kept p2 = true) : partBad (p1, p2) = true := by simp only [partBad, h, if_true, k]
theorem pb_kind {p1 p2 : Str} (h : (p1 == Str.ofString "sym") = false) (k : (p1 != Str.ofString "act") = true) : partBad (p1, p2) = true := by simp only [partBad, h, k, Bool.false_eq_true, if_false]
theorem pg_sym {p1 p2 : Str} (h : (p1 == Str.ofString "sym") = true) (k : kept p2 = false) : partBad (p1, p2) = false := by simp only [partBad, h, if_true, k]
theorem pg_act {p1 p2 : Str} (h : (p1 == Str.ofString "sym") = false) (k : (p1 != Str.ofString "act") = false) : partBad (p1, p2) = false := by simp only [partBad, h, k, Bool.false_eq_true, if_false]
theorem pre_next {ps : List Part} {i : Nat} {p : Part} (h : ∀ (j : Nat) (p : Part), j < i → ps[j]? = some p → partBad p = false) (hi : ps[i]? = some p) (b : partBad p = false) : ∀ (j : Nat) (p : Part), j < i + 1 → ps[j]? = some p → partBad p = false := fun j q hj e => by
  rcases Nat.lt_or_ge j i with h1 | h1
  · exact h j q h1 e
  · obtain rfl : j = i := by omega
    rw [hi] at e; cases e; exact b
theorem crOk_yes {x : Str} {ps : List Part} {po : Option Str} {n : Nat} (hn : ps.length ≤ n) (hx : kept x = false) (h : ∀ (j : Nat) (p : Part), j < n → ps[j]? = some p → partBad p = false) (hp : ∀ y, po = some y → kept y = false) : crOk x ps po = true := by
  have h1 : ps.all (fun p => !partBad p) = true := by
    rw [List.all_eq_true]
    intro p hp
    obtain ⟨j, hj, e⟩ := List.mem_iff_getElem.mp hp
    have := h j p (by omega) (by rw [List.getElem?_eq_getElem hj, e])
    simp [this]
  have h2 : po.any kept = false := by
    cases po with
    | none => rfl
    | some y => exact hp y rfl
  simp [crOk, hx, h1, h2]
theorem mapE2a {α : Type} {a b : Str} {f g : Str → α} (h : ∀ y, y ≠ a → y ≠ b → f y = g y) : f = fun y => if y = a then f a else if y = b then f b else g y := by
  funext y
  by_cases h1 : y = a
  · rw [if_pos h1, h1]
  · rw [if_neg h1]
    by_cases h2 : y = b
    · rw [if_pos h2, h2]
    · rw [if_neg h2, h y h1 h2]
theorem check_rule_any {h : Heap} {x : Str} {t : Tok} {l : Addr} {vs : List Value} {ps : List Part} {pv : Value} {po : Option Str} (hx : x.length < 1000) (hl : h.IsList l vs.toArray) (hp : PartsOn (inh h) vs ps) (hv : OptS pv po) (hps : ∀ (i : Nat) (p : Part), ps[i]? = some p → p.1.length < 1000 ∧ p.2.length < 1000) (hpo : ∀ y, po = some y → y.length < 1000) :
    Spec w loose mean mg mb base 235 [.str x t, .ref l, pv] 5 h [] (fun v n => v = .none ∧ n = [] ∧ crOk x ps po = true) (crOk x ps po = false) := by
  have fp := fp0 (base := base) (h := h)
  ktr_enter
  have hp' : PartsOn (inh g') vs ps := hp.mono fun a o e => gk' a o e (fun z => nomatch z)
  have hl' : g'.IsList l vs.toArray := hl.at fun o e => gk' l o e (fun z => nomatch z)
  k_steps
  refine loopB (fun i m nx => nx = [] ∧ (∀ j p, j < i → ps[j]? = some p → partBad p = false) ∧ ∃ x0 x1, m = fun y => if y = Str.ofString "text" then x0 else if y = Str.ofString "kind" then x1 else List.lookup y [(Str.ofString "prec", pv), (Str.ofString "parts", Value.ref l), (Str.ofString "left", Value.str x t)]) (by exact rfl) hl' (by passes_own) (.inr ⟨_, _, _, rfl⟩) F' N' ⟨rfl, fun j _ hj => absurd hj (Nat.not_lt_zero _), _, _, mapE2a fun _ _ _ => rfl⟩ ?turn ?done
  case turn =>
    intro i v m1 nx h5 tk5 I oI hi hJ hnx F5 N5
    clear F' N'
    refine hideT fun Qt hQt => ?_
    obtain ⟨rfl, hpre, x0, x1, rfl⟩ := hJ
    obtain ⟨p, hpi, a, t1, t2, rfl, hpa⟩ := hp'.at i v hi
    obtain ⟨p1, p2⟩ := p
    obtain ⟨hl1, hl2⟩ := hps i _ hpi
    dsimp only at hl1 hl2
    have hta : h5.IsTuple a #[.str p1 t1, .str p2 t2] := ⟨_, F5.keep _ _ hpa, rfl, _, rfl⟩
    k_steps
    all_goals first
      | exact hQt _ _ (tEnd (by k_asm) (by k_asm) hnx ⟨rfl, pre_next hpre hpi (by first | exact pg_sym (by assumption) (by assumption) | exact pg_act (by assumption) (by assumption)), _, _, mapE2a fun y z1 z2 => by simp only [if_neg z1, if_neg z2]⟩)
      | (refine geEnd (by k_asm) fun h' e t₀ dd tk' kp he0 he => ?_
         refine raise_out gk' (fun p hp => (fp p hp).1) B' (by k_asm) (fun p hp => nomatch hp) kp he0 he rfl fun h2 fl => ?_
         exact err (by nest_cls) e h2 tk' fl)
  case done =>
    intro m1 nx h5 tk5 hJ F5 N5
    clear F' N'
    obtain ⟨rfl, hpre, x0, x1, rfl⟩ := hJ
    dsimp only
    cases hv
    all_goals try have hpo' := hpo _ rfl
    all_goals k_steps
    all_goals first
      | exact leaveC (by k_asm) (by k_asm) fun kp nw => ret _ _ _ _ kp nw ⟨rfl, rfl, crOk_yes (Nat.le_of_eq hp.len.symm) (by assumption) hpre (fun y e => by cases e; try assumption)⟩
end
section
variable {w : World} {loose : List Str} {mean : ExcName → Option Value} {mg mb : Str → Option Value} {base : Heap}
/-- a contract at a call that the machine makes itself -/
theorem useQ {f : Addr} {args : List Value} {k : Nat} {fpo : List (Addr × Obj)} {Post : Value → List (Addr × Obj) → Prop} {Exc : Prop} {s : Shared}
    {A₀ : Around} {env : Env} {frs : List Env} {g : Heap} {L : Addr} {m : Str → Option Value} {news rest : List (Addr × Obj)} {R : Result → Shared → Prop} {dp un : Nat} {gd : Option (List Code)}
    (Sp : Spec w loose mean mg mb base f args k s.heap fpo Post Exc)
    (X : (frag.heap_1 w.params).In base) (T : Top view loose mean mg mb base) (B : Below A₀ base frs g) (F : Fr g L s.heap m) (N : News g L s.heap news)
    (hL : env.frame = some L) (hke : env.scope.kind ≠ .module) (hd : dp + k < recursionLimit) (hu : un + 8 * k < cLine)
    (hfp : ∀ p ∈ fpo, p ∈ news) (hrest : ∀ p ∈ rest, p ∈ news ∧ p.1 ∉ adr fpo)
    (ret : ∀ v h' tk' news', Fr g L h' m → News g L h' (news' ++ rest) → (∀ p ∈ news', p.1 ∈ adr fpo ∨ ∀ q ∈ news, q.1 ≠ p.1) → Post v news' → R (.ok (.ret v)) { s with heap := h', toks := tk' })
    (err : Exc → ∀ e h' tk', Fly s.heap (env :: frs) e h' → R (.error (.ref e)) { s with heap := h', toks := tk' }) :
    codeAny (model prg w) (Ar dp un gd (env :: frs)) (.call (.ref f) ⟨args, []⟩) R s := by
  have hnew : base.get? L = none := by
    cases hq : base.get? L with
    | none => rfl
    | some o => exact absurd (Nat.lt_of_lt_of_le (Heap.lt_size (B.stays L o hq)) F.above) (Nat.lt_irrefl _)
  have FF : s.heap.FunFrames base (env :: frs) := .cons hke hL F.ns hnew (B.frames.of_keeps fun b o e _ => ⟨o, F.keep b o e, rfl⟩)
  have hin : ∀ p ∈ fpo, g.get? p.1 = none ∧ p.1 ≠ L := fun p hp => ⟨(N p (hfp p hp)).2.2, (N p (hfp p hp)).2.1⟩
  refine Sp (env :: frs) dp un gd s _ rfl ⟨X, T, fun b o e => F.keep b o (B.stays b o e), FF⟩ (fun en he p hp hq => ?_) hd hu (fun v h' tk' news' kp nw po => ?_) (fun ex e h' tk' fl => err ex e h' tk' fl)
  · rcases List.mem_cons.mp he with rfl | he
    · rw [hL] at hq; exact (hin p hp).2 (Option.some.inj hq).symm
    · obtain ⟨_, o, ho, _⟩ := B.frames.mem (List.mem_filterMap.mpr ⟨en, he, hq⟩)
      rw [(hin p hp).1] at ho; cases ho
  · have nL : L ∉ adr fpo := fun q => by
      obtain ⟨p, hp, e⟩ := List.mem_map.mp q
      exact (hin p hp).2 e
    obtain ⟨oL, es, ep, hoL, r⟩ := F.ns
    refine ret v h' tk' news' ⟨⟨oL, es, ep, kp _ _ hoL nL, r⟩, fun b o e => kp b o (F.keep b o e) (fun q => ?_), F.above⟩ (fun p hp => ?_) (fun p hp => ?_) po
    · obtain ⟨p, hp, rfl⟩ := List.mem_map.mp q
      rw [(hin p hp).1] at e; cases e
    · rcases List.mem_append.mp hp with hp | hp
      · refine ⟨(nw p hp).1, ?_⟩
        rcases (nw p hp).2 with q | q
        · obtain ⟨p', hp', e⟩ := List.mem_map.mp q
          rw [← e]; exact ⟨(hin p' hp').2, (hin p' hp').1⟩
        · refine ⟨fun e => ?_, ?_⟩
          · rw [e, hoL] at q; cases q
          · cases e : g.get? p.1 with
            | none => rfl
            | some o => rw [F.keep _ _ e] at q; cases q
      · obtain ⟨hn, hq⟩ := hrest p hp
        exact ⟨kp _ _ (N p hn).1 hq, (N p hn).2⟩
    · rcases (nw p hp).2 with q | q
      · exact .inl q
      · refine .inr fun q' hq' e => ?_
        rw [← e, (N q' hq').1] at q; cases q
/-- a class of the text whose __init__ has a contract -/
theorem newP {C fI : Addr} {args : List Value} {k : Nat} {Post : Addr → Addr → List (Addr × Obj) → Prop} {A A₀ : Around} {env : Env} {frs : List Env} {g : Heap} {L : Addr} {m : Str → Option Value} {news : List (Addr × Obj)} {Q E : Value → Shared → Prop} {dp un : Nat} {gd : Option (List Code)} {hp : Heap} {gn : Array GenState} {dr : Drawn} {tk : Nat} {os : OsState}
    (Sp : ∀ x dx h', Fr g L h' m → News g L h' ((x, instObj C dx) :: (dx, dictOf [] 0) :: news) → (∀ p ∈ news, p.1 < dx) → @LT.lt Nat instLTNat dx x → FP base h' [(x, instObj C dx), (dx, dictOf [] 0)] → Spec w loose mean mg mb base fI (.ref x :: args) k h' [(x, instObj C dx), (dx, dictOf [] 0)] (fun v n => v = .none ∧ Post x dx n) False)
    (X : (frag.heap_1 w.params).In base) (T : Top view loose mean mg mb base) (B : Below A₀ base frs g) (F : Fr g L hp m) (N : News g L hp news) (X' : (frag.heap_1 w.params).In g)
    (hA : A = Ar dp un gd (env :: frs)) (hL : env.frame = some L) (hke : env.scope.kind ≠ .module) (hd : dp + 1 + k < recursionLimit) (hu : un + 1 + 8 * k < cLine)
    (hm : makesIn (frag.heap_1 w.params) C = true) (hi : findIn (frag.heap_1 w.params) (.ref C) "__init__" = some (some (.ref fI))) (hf : isFn (frag.heap_1 w.params) (.ref fI) = true)
    (ret : ∀ x dx h' tk' news', Post x dx news' → Fr g L h' m → News g L h' (news' ++ news) → (∀ p ∈ news', ∀ q ∈ news, q.1 ≠ p.1) → Q (.ref x) ⟨h', gn, dr, tk', os⟩) :
    wpAny (model prg w) A (call (.ref C) args) Q E ⟨hp, gn, dr, tk, os⟩ := by
  subst hA
  refine call_cls F X' N hm hi hf fun x dx h' F' N' l1 l2 => ?_
  have hA' : (Ar dp un gd (env :: frs)).under (Code.builtin "type.__call__" ⟨.ref C :: args, []⟩) = Ar (dp + 1) (un + 1) gd (env :: frs) := rfl
  rw [hA']
  have hP : Pick [(x, instObj C dx), (dx, dictOf [] 0)] ((x, instObj C dx) :: (dx, dictOf [] 0) :: news) news := .cons .head (.cons .head .nil)
  refine useQ (rest := news) (Sp x dx h' F' N' l1 l2 (fp_of B N' hP)) X T B F' N' hL hke hd hu hP.subs.1 (fun p hp => ⟨.tail _ (.tail _ hp), ?_⟩) (fun v h2 tk2 n2 F2 N2 hn po => ?_) fun f => f.elim
  · have a := l1 p hp
    intro z
    simp only [adr, List.map_cons, List.map_nil, List.mem_cons, List.not_mem_nil, or_false] at z
    rcases z with z | z
    · rw [z] at a; exact absurd (Nat.lt_trans a l2) (Nat.lt_irrefl _)
    · rw [z] at a; exact absurd a (Nat.lt_irrefl _)
  · refine ⟨po.1, ret x dx h2 tk2 n2 po.2 F2 N2 fun p hp q hq => ?_⟩
    rcases hn p hp with z | z
    · have a := l1 q hq
      simp only [adr, List.map_cons, List.map_nil, List.mem_cons, List.not_mem_nil, or_false] at z
      rcases z with z | z
      · rw [z]; exact Nat.ne_of_lt (Nat.lt_trans a l2)
      · rw [z]; exact Nat.ne_of_lt a
    · exact z q (.tail _ (.tail _ hq))
end
theorem perm3 {α : Type} {a b c : List α} : ∀ p ∈ a ++ (b ++ c), p ∈ (a ++ c) ++ b := fun _ h => (List.mem_append.mp h).elim (fun h => List.mem_append.mpr (.inl (List.mem_append.mpr (.inl h)))) fun h => (List.mem_append.mp h).elim (fun h => List.mem_append.mpr (.inr h)) fun h => List.mem_append.mpr (.inl (List.mem_append.mpr (.inr h)))
/-- the maker's six objects ahead of a ledger -/
abbrev mledT (w : World) (m : MA) (lc : Int) (lct : Tok) (mc : Int) (mct : Tok) (st ex : Value) (ts : List Value) (te : Nat) (lo : Obj) (ds : List Value) (de : Nat) (ls : List Value) (le : Nat) (r : List (Addr × Obj)) : List (Addr × Obj) :=
  (m.x, instObj 335 m.d) :: (m.d, dictOf (attrs w m lc lct mc mct st ex) 8) :: (m.t, listOf ts.toArray te) :: (m.lv, lo) :: (m.dr, listOf ds.toArray de) :: (m.lf, listOf ls.toArray le) :: r
theorem Has.six {m : MA} {o1 o2 o3 o4 o5 o6 : Obj} {r : List (Addr × Obj)} : Has [m.x, m.d, m.t, m.lv, m.dr, m.lf] ((m.x, o1) :: (m.d, o2) :: (m.t, o3) :: (m.lv, o4) :: (m.dr, o5) :: (m.lf, o6) :: r) :=
  .mk (.head _) (.mk (.tail _ (.head _)) (.mk (.tail _ (.tail _ (.head _))) (.mk (.tail _ (.tail _ (.tail _ (.head _)))) (.mk (.tail _ (.tail _ (.tail _ (.tail _ (.head _))))) (.mk (.tail _ (.tail _ (.tail _ (.tail _ (.tail _ (.head _)))))) .nil)))))
section
variable {w : World} {loose : List Str} {mean : ExcName → Option Value} {mg mb : Str → Option Value} {base : Heap}
variable {A A₀ : Around} {env : Env} {frs : List Env} {g : Heap} {L : Addr} {mm : Str → Option Value} {news rest : List (Addr × Obj)} {Q E : Value → Shared → Prop} {dp un : Nat} {gd : Option (List Code)} {hp : Heap} {gn : Array GenState} {dr : Drawn} {tk : Nat} {os : OsState}
variable {m : MA} {lc : Int} {lct : Tok} {mc : Int} {mct : Tok} {st ex : Value} {ts : List Value} {te : Nat} {lo : Obj} {ds : List Value} {de : Nat} {ls : List Value} {le : Nat} {ss zs : List Str} {x : Str} {t : Tok}
theorem token_use (o : m.Ok) (hs : StrsAre ts ss) (hl : ts.length < 1000) (hx : x.length < 1000) (hk : kept x = false)
    (X : (frag.heap_1 w.params).In base) (T : Top view loose mean mg mb base) (B : Below A₀ base frs g) (F : Fr g L hp mm) (N : News g L hp news)
    (hA : A = Ar dp un gd (env :: frs)) (hL : env.frame = some L) (hke : env.scope.kind ≠ .module) (hd : dp + 3 < recursionLimit) (hu : un + 8 * 3 < cLine)
    (P : Pick (mled w m lc lct mc mct st ex ts te lo ds de ls le) news rest) (hne : AllNe [m.x, m.d, m.t, m.lv, m.dr, m.lf] rest)
    (ret : ∀ ts' te' h' tk', let nw : List (Addr × Obj) := mledT w m lc lct mc mct st ex ts' te' lo ds de ls le rest; StrsAre ts' (addTok ss x) → Fr g L h' mm → News g L h' nw → Q .none ⟨h', gn, dr, tk', os⟩) :
    wpAny (model prg w) A (call (.ref 256) [.ref m.x, .str x t]) Q E ⟨hp, gn, dr, tk, os⟩ :=
  useP (s := ⟨hp, gn, dr, tk, os⟩) (token_ok o hs hl hx hk) X T B F N hA hL hke hd hu P hne (fun v h' tk' news' F' N' _ _ po => by
    obtain ⟨rfl, ts', te', rfl, hs'⟩ := po
    exact ret ts' te' h' tk' hs' F' N') fun f => f.elim
theorem use_use (o : m.Ok) (hs : StrsAre ts ss) (hl : ts.length < 1000) (hx : x.length < 1000) (hk : kept x = false)
    (X : (frag.heap_1 w.params).In base) (T : Top view loose mean mg mb base) (B : Below A₀ base frs g) (F : Fr g L hp mm) (N : News g L hp news)
    (hA : A = Ar dp un gd (env :: frs)) (hL : env.frame = some L) (hke : env.scope.kind ≠ .module) (hd : dp + 4 < recursionLimit) (hu : un + 8 * 4 < cLine)
    (P : Pick (mled w m lc lct mc mct st ex ts te lo ds de ls le) news rest) (hne : AllNe [m.x, m.d, m.t, m.lv, m.dr, m.lf] rest)
    (ret : ∀ ts' te' h' tk', let nw : List (Addr × Obj) := mledT w m lc lct mc mct st ex ts' te' lo ds de ls le rest; StrsAre ts' (useTok ss x) → Fr g L h' mm → News g L h' nw → Q .none ⟨h', gn, dr, tk', os⟩) :
    wpAny (model prg w) A (call (.ref 291) [.ref m.x, .str x t]) Q E ⟨hp, gn, dr, tk, os⟩ :=
  useP (s := ⟨hp, gn, dr, tk, os⟩) (use_ok o hs hl hx hk) X T B F N hA hL hke hd hu P hne (fun v h' tk' news' F' N' _ _ po => by
    obtain ⟨rfl, ts', te', rfl, hs'⟩ := po
    exact ret ts' te' h' tk' hs' F' N') fun f => f.elim
theorem left_use (o : m.Ok) (hs : StrsAre ls zs) (hl : ls.length < 1000)
    (X : (frag.heap_1 w.params).In base) (T : Top view loose mean mg mb base) (B : Below A₀ base frs g) (F : Fr g L hp mm) (N : News g L hp news)
    (hA : A = Ar dp un gd (env :: frs)) (hL : env.frame = some L) (hke : env.scope.kind ≠ .module) (hd : dp + 2 < recursionLimit) (hu : un + 8 * 2 < cLine)
    (P : Pick (mled w m lc lct mc mct st ex ts te lo ds de ls le) news rest) (hne : AllNe [m.x, m.d, m.t, m.lv, m.dr, m.lf] rest)
    (ret : ∀ ls' le' h' tk', let nw : List (Addr × Obj) := mledT w m lc lct mc mct st ex ts te lo ds de ls' le' rest; StrsAre ls' (addNew zs x) → Fr g L h' mm → News g L h' nw → Q .none ⟨h', gn, dr, tk', os⟩) :
    wpAny (model prg w) A (call (.ref 284) [.ref m.x, .str x t]) Q E ⟨hp, gn, dr, tk, os⟩ :=
  useP (s := ⟨hp, gn, dr, tk, os⟩) (add_left_ok o hs hl) X T B F N hA hL hke hd hu P hne (fun v h' tk' news' F' N' _ _ po => by
    obtain ⟨rfl, ts', te', rfl, hs'⟩ := po
    exact ret ts' te' h' tk' hs' F' N') fun f => f.elim
theorem MA.Ok.all (o : m.Ok) : (@LT.lt Nat instLTNat m.d m.x) ∧ (@LT.lt Nat instLTNat m.d m.t) ∧ (@LT.lt Nat instLTNat m.d m.lv) ∧ (@LT.lt Nat instLTNat m.d m.dr) ∧ (@LT.lt Nat instLTNat m.d m.lf) ∧ (@LT.lt Nat instLTNat m.x m.t) ∧ (@LT.lt Nat instLTNat m.x m.lv) ∧ (@LT.lt Nat instLTNat m.x m.dr) ∧ (@LT.lt Nat instLTNat m.x m.lf) ∧ (@LT.lt Nat instLTNat m.t m.lv) ∧ (@LT.lt Nat instLTNat m.t m.dr) ∧ (@LT.lt Nat instLTNat m.t m.lf) ∧ (@LT.lt Nat instLTNat m.lv m.dr) ∧ (@LT.lt Nat instLTNat m.lv m.lf) ∧ (@LT.lt Nat instLTNat m.dr m.lf) := by
  obtain ⟨a1, a2, a3, a4, a5⟩ := o
  have b1 := Nat.lt_trans a1 a2
  have b2 := Nat.lt_trans b1 a3
  have b3 := Nat.lt_trans b2 a4
  have b4 := Nat.lt_trans a2 a3
  have b5 := Nat.lt_trans b4 a4
  have b6 := Nat.lt_trans a3 a4
  exact ⟨a1, b1, b2, b3, Nat.lt_trans b3 a5, a2, b4, b5, Nat.lt_trans b5 a5, a3, b6, Nat.lt_trans b6 a5, a4, Nat.lt_trans a4 a5, a5⟩
theorem MA.Ok.cps (o : m.Ok) {P : Prop} (k : @LT.lt Nat instLTNat m.d m.x → @LT.lt Nat instLTNat m.d m.t → @LT.lt Nat instLTNat m.d m.lv → @LT.lt Nat instLTNat m.d m.dr → @LT.lt Nat instLTNat m.d m.lf → @LT.lt Nat instLTNat m.x m.t → @LT.lt Nat instLTNat m.x m.lv → @LT.lt Nat instLTNat m.x m.dr → @LT.lt Nat instLTNat m.x m.lf → @LT.lt Nat instLTNat m.t m.lv → @LT.lt Nat instLTNat m.t m.dr → @LT.lt Nat instLTNat m.t m.lf → @LT.lt Nat instLTNat m.lv m.dr → @LT.lt Nat instLTNat m.lv m.lf → @LT.lt Nat instLTNat m.dr m.lf → P) : P := by
  obtain ⟨a1, a2, a3, a4, a5, a6, a7, a8, a9, a10, a11, a12, a13, a14, a15⟩ := o.all
  exact k a1 a2 a3 a4 a5 a6 a7 a8 a9 a10 a11 a12 a13 a14 a15
theorem AllNe.off {fp : List Addr} {nd : List (Addr × Obj)} {a : Addr} (h : AllNe fp nd) (ha : a ∈ fp) : ∀ p ∈ nd, p.1 ≠ a := fun p hp e => h.all p hp (e ▸ ha)
theorem keys7 {r a b c d e f I : Addr} {o0 o1 o2 o3 o4 o5 o6 p0 p1 p2 p3 p4 p5 p6 : Obj} {nd : List (Addr × Obj)} (h : ∀ q ∈ (r, o0) :: (a, o1) :: (b, o2) :: (c, o3) :: (d, o4) :: (e, o5) :: (f, o6) :: nd, @Ne Nat q.1 I) :
    ∀ q ∈ (r, p0) :: (a, p1) :: (b, p2) :: (c, p3) :: (d, p4) :: (e, p5) :: (f, p6) :: nd, q.1 ≠ I := by
  simp only [List.mem_cons, forall_eq_or_imp] at h ⊢
  exact h
theorem keys7a {r a b c d e f I : Addr} {o0 o1 o2 o3 o4 o5 o6 p0 p1 p2 p3 p4 p5 p6 : Obj} {nd nd' : List (Addr × Obj)} (h : ∀ q ∈ (r, o0) :: (a, o1) :: (b, o2) :: (c, o3) :: (d, o4) :: (e, o5) :: (f, o6) :: nd, @Ne Nat q.1 I) (h' : ∀ q ∈ nd', @Ne Nat q.1 I) :
    ∀ q ∈ (r, p0) :: (a, p1) :: (b, p2) :: (c, p3) :: (d, p4) :: (e, p5) :: (f, p6) :: (nd ++ nd'), q.1 ≠ I := by
  simp only [List.mem_cons, List.mem_append, forall_eq_or_imp] at h ⊢
  exact ⟨h.1, h.2.1, h.2.2.1, h.2.2.2.1, h.2.2.2.2.1, h.2.2.2.2.2.1, h.2.2.2.2.2.2.1, fun q hq => hq.elim (h.2.2.2.2.2.2.2 q) (h' q)⟩
end
theorem words_B11 : True := by
  k_with_none
  k_with "ktr_room" =>
    ((try simp only [depth_under_make, depth_under_kw, depth_in1, depth_deeper]); (try dsimp only [Ar]); omega)
  k_with "ktr_units" =>
    ((try simp only [units_in1, units_deeper, Around.mark_units]); (try dsimp only [Ar]); omega)
  k_with "ktr_enter" =>
    (
      intro frs dp un gd s R hs G hap hd hu ret err
      subst hs
      have X := G.X
      have T := G.T
      k_dflt (
        refine' enterP G _ ?k1 hap ?k3 ?k4 ?k5 ?k6 ?k8 ?k7 ?_ ?c2 ?c3 ?c4 ?c5
        (case k3 => k_is)
        (case k4 => k_is)
        (case k1 => assumption)
        (case k5 => omega)
        (case k6 => exact rfl)
        (case k8 => (refine' zr_of ?zra ?zrb; (case zra => (dsimp only [List.map_cons, List.map_nil]; try exact rfl)); (case zrb => first | exact zr1 | exact zr2 | exact zr3 | exact zr4 | exact zr5 | exact zr6 | exact zr7 | exact zr8)))
        (case k7 => exact locs rfl)
        (case c2 => exact rfl)
        (case c3 => exact rfl)
        (case c4 => exact rfl)
        (case c5 => decide)
        k_whole
        intro g' L' h' tk' gk' F' N' B' X' T'
        (try dsimp only [mled] at N')
        (try dsimp only)
        (try k_fold)))
  k_with "ktr_step" =>
    (
      intro frs dp un gd s R hs G hap hd hu ret err
      subst hs
      have X := G.X
      have T := G.T
      have Xs : (frag.heap_1 w.params).In s.heap := X.keeps G.st
      k_dflt (
        refine' enter G _ ?k1 hap ?k3 ?k4 ?k5 ?k6 ?k7 ?_ ?c2 ?c3 ?c4 ?c5
        (case k3 => k_is)
        (case k4 => k_is)
        (case k1 => assumption)
        (case k5 => omega)
        (case k6 => first | exact BindsTo.of_eq rfl | exact binds_K Xs rfl (by k_is) rfl rfl rfl)
        (case k7 => exact locs rfl)
        (case c2 => exact rfl)
        (case c3 => exact rfl)
        (case c4 => exact rfl)
        (case c5 => decide)
        k_whole
        intro g' L' h' gk' F' N' B' X' T'
        (try dsimp only [mled] at N')
        (try dsimp only)
        (try k_fold)))
  k_with "exec Raise some none" =>
    (k_dflt (refine' Raise_ge X T B' ?F X' T' ?d ?u ?a ?b ?c ?_; (case F => k_asm); (case d => ktr_room); (case u => ktr_units); (case a => exact rfl); (case b => exact rfl); (case c => exact rfl)))
  k_with "k_room" =>
    ktr_room
  k_with "call type:range" =>
    (k_dflt (refine' range1_rows ?F ?N ?_; (case F => k_asm); (case N => k_asm); intro h' tk' t1' u1' v1' R' F' N' kp'))
  k_with "exec For" =>
    (k_dflt (refine' For_own ?_ ?s; (case s => intro _; rfl)))
  k_with "ktr_rel" =>
    (
      (case F => k_asm)
      (case N => k_asm)
      (case A => exact rfl)
      (case L => exact rfl)
      (case K => intro h9; cases h9)
      (case d => ktr_room)
      (case u => ktr_units)
      (case e => intro h9; cases h9)
      intro h' tk' F' N'
      (try k_sweep))
  k_with "ktn_open" =>
    first | exact Rm.head | (refine' Rm.tail ?b; (case b => ktn_open))
  k_with "tb_start" =>
    first | exact Pick.nil | (refine' Pick.cons ?a ?b; (case a => ktn_open); (case b => tb_start))
  k_with "k_memK" =>
    first | exact ne0 | (refine ne1 ?x ?_; (case x => ((try dsimp only); omega)); k_memK)
  k_with "k_allIn" =>
    first | exact True.intro | (refine And.intro ?h ?_; (case h => k_memK); k_allIn)
  k_with "tb_rel" =>
    (
      (case F => k_asm)
      (case N => k_asm)
      (case A => exact rfl)
      (case L => exact rfl)
      (case K => intro h9; cases h9)
      (case d => ktr_room)
      (case u => ktr_units)
      (case e => intro h9; cases h9)
      (case P => tb_start)
      (case ne => k_allIn))
  k_with "compareOp In str ref" =>
    (k_dflt (refine' in_list_strs ?l ?i ?_; (case l => exact isL (by k_asm) (by k_mem)); (case i => assumption)))
  k_with "compareOp NotIn str ref" =>
    (k_dflt (refine' notin_list_strs ?l ?i ?_; (case l => exact isL (by k_asm) (by k_mem)); (case i => assumption)))
  k_with "call builtin:list.append" =>
    (k_dflt (refine' append_L ?k1 ?k2 ?k3 ?z ?_; (case k1 => k_asm); (case k2 => k_asm); (case k3 => k_upd); (case z => first | omega | (simp only [List.length_append, List.length_cons, List.length_nil]; omega)); k_whole); intro h' F' N'; (try k_sweep))
  k_with "call ref" =>
    (k_dflt (
      (first
      | (refine' use0 (is_kept ?a) X T B' ?F ?N ?A ?L ?K ?d ?u ?_ ?e; (case a => assumption))
      | (refine' use0 (is_literal ?a) X T B' ?F ?N ?A ?L ?K ?d ?u ?_ ?e; (case a => assumption))
      | (refine' use0 (check_name ?a ?b) X T B' ?F ?N ?A ?L ?K ?d ?u ?_ ?e; (case a => assumption); (case b => assumption)))
      ktr_rel))
  k_with "call ref" =>
    (k_dflt (
      (refine' useP (token_ok ?o ?s ?l ?x ?k) X T B' ?F ?N ?A ?L ?K ?d ?u ?P ?ne ?_ ?e)
      (case o => assumption)
      (case x => assumption)
      tb_rel
      (case s => assumption)
      (case l => assumption)
      (case k => assumption)
      intro v' h' tk' news' F' N' hf' kp' po'
      obtain ⟨rfl, ts', te', rfl, hs'⟩ := po'
      simp only [List.cons_append, List.nil_append] at N'
      (try k_sweep)))
  k_with "call ref" =>
    (k_dflt (
      (refine' useP (use_ok ?o ?s ?l ?x ?k) X T B' ?F ?N ?A ?L ?K ?d ?u ?P ?ne ?_ ?e)
      (case o => assumption)
      (case x => assumption)
      tb_rel
      (case s => assumption)
      (case l => assumption)
      (case k => assumption)
      intro v' h' tk' news' F' N' hf' kp' po'
      obtain ⟨rfl, ts', te', rfl, hs'⟩ := po'
      simp only [List.cons_append, List.nil_append] at N'
      (try k_sweep)))
  k_with "call ref" =>
    (k_dflt (
      (refine' useP (add_left_ok ?o ?s ?l) X T B' ?F ?N ?A ?L ?K ?d ?u ?P ?ne ?_ ?e)
      (case o => assumption)
      tb_rel
      (case s => assumption)
      (case l => assumption)
      intro v' h' tk' news' F' N' hf' kp' po'
      obtain ⟨rfl, ls', le', rfl, hs'⟩ := po'
      simp only [List.cons_append, List.nil_append] at N'
      (try k_sweep)))
  k_with "boot_fact" =>
    first | exact (fun p hp => nomatch hp) | k_asm
  k_with "call ref" =>
    (k_dflt (
      (refine' useX (check_name_any ?a) X T B' ?F ?N ?A ?L ?K ?d ?u ?_ ?e)
      (case a => assumption)
      (case F => k_asm)
      (case N => k_asm)
      (case A => exact rfl)
      (case L => exact rfl)
      (case K => intro h9; cases h9)
      (case d => ktr_room)
      (case u => ktr_units)
      (case e => intro hx9 e9 h9 tk9 fl9; refine pass_out gk' (fun p hp => (fp p hp).1) (by k_asm) (by boot_fact) fl9 fun h2 f2 => err ?_ _ _ _ f2; nest_cls)
      intro h' tk' F' N' hx'
      (try k_sweep)))
  k_with "k_ne" =>
    (refine neN ?_; (try dsimp only); first | with_reducible exact Nat.ne_of_lt (by with_reducible assumption) | with_reducible exact Nat.ne_of_gt (by with_reducible assumption) | with_reducible assumption | with_reducible exact Ne.symm (by with_reducible assumption) | omega)
  k_with "k_memK" =>
    first | exact ne0 | (refine ne1 ?kmx ?_; (case kmx => k_ne); k_memK)
  k_with "ktr_room" =>
    ((try simp only [depth_under_make, depth_under_kw, depth_in1, depth_deeper]); (try dsimp only [Ar]); first | exact room1 (by with_reducible assumption) (by decide) | exact room2 (by with_reducible assumption) (by decide) | omega)
  k_with "ktr_units" =>
    ((try simp only [units_in1, units_deeper, Around.mark_units]); (try dsimp only [Ar]); first | exact units1 (by with_reducible assumption) (by decide) | exact units2 (by with_reducible assumption) (by decide) | exact units3 (by with_reducible assumption) (by decide) | omega)
  k_with "atoms" =>
    first | exact Atoms.nil | (refine' Atoms.str ?amn; (case amn => k_extra "atoms")) | (refine' Atoms.int ?amn; (case amn => k_extra "atoms")) | (refine' Atoms.none ?amn; (case amn => k_extra "atoms")) | (refine' Atoms.name ?amv ?amx ?amd ?amn; (case amv => exact rfl); (case amx => exact rfl); (case amd => decide); (case amn => k_extra "atoms"))
  k_with "spliced" =>
    ((try dsimp only); k_dflt (refine' spliced_atoms ?saF ?sae ?saH ?_ ?sak; (case saF => k_asm); (case sae => exact rfl); (case sak => exact rfl); (case saH => k_extra "atoms"); k_whole))
  k_with "eval Tuple" =>
    ((try dsimp only); k_dflt (refine' tuple_atoms ?saF ?saN ?sae ?saH ?saz ?_ ?sak; (case saF => k_asm); (case sae => exact rfl); (case saN => k_asm); (case sak => exact rfl); (case saH => k_extra "atoms"); (case saz => kmk_size)); intro D' h' F' N' l1; (try k_lt l1); (try k_sweep))
  k_with "eval List" =>
    ((try dsimp only); k_dflt (refine' list_atoms ?saF ?saN ?sae ?saH ?saz ?_ ?sak; (case saF => k_asm); (case sae => exact rfl); (case saN => k_asm); (case sak => exact rfl); (case saH => k_extra "atoms"); (case saz => kmk_size); k_whole); intro l' h' F' N' l1; (try k_lt l1); (try k_sweep))
  k_with "eval Call" =>
    ((try dsimp only); k_dflt (refine' call_atoms ?saF ?saX ?saT ?saE ?sae ?sakp ?saH ?_ ?sax ?sad ?sas ?sap ?sak; (case saF => k_asm); (case saE => exact rfl); (case saX => k_asm); (case saT => k_asm); (case sax => exact rfl); (case sae => k_is); (case sakp => k_is); (case saH => k_extra "atoms"); (case sad => decide); (case sas => exact rfl); (case sap => exact rfl); (case sak => exact rfl); k_whole))
  k_with "eqNo" =>
    first | exact EqC.int_no (by decide) | exact EqC.str_no (by with_reducible assumption) | exact EqC.str_no (by decide +kernel) | exact EqC.int_no (by omega)
  k_with "eqYes" =>
    first | exact EqC.int_yes rfl | exact EqC.str_yes (by with_reducible assumption) | exact EqC.str_yes (by decide +kernel) | exact EqC.int_yes (by omega)
  k_with "exec If" =>
    ((with_reducible show wpAny _ _ (exec (Stmt.If (Expr.Compare (Expr.Name _ _) [CmpOp.Eq] [Expr.Constant _ _ _] _) _ _ _) _) _ _ _); k_dflt (first
      | (refine' if_no ?siF ?sie ?siv ?sin ?_ ?six ?sid ?sik; (case siF => k_asm); (case sie => exact rfl); (case siv => exact rfl); (case sin => k_extra "eqNo"); (case six => exact rfl); (case sid => decide); (case sik => exact rfl); k_whole)
      | (refine' if_yes ?siF ?sie ?siv ?sin ?_ ?six ?sid ?sik; (case siF => k_asm); (case sie => exact rfl); (case siv => exact rfl); (case sin => k_extra "eqYes"); (case six => exact rfl); (case sid => decide); (case sik => exact rfl); k_whole)))
  k_with "kat_tups" =>
    first | with_reducible_and_instances exact List.Mem.head _ | (refine List.Mem.tail _ ?_; kat_tups) | (refine List.mem_append.mpr (Or.inl ?_); kat_tups) | (refine List.mem_append.mpr (Or.inr ?_); kat_tups) | with_reducible assumption | with_reducible_and_instances exact hq | ((with_reducible show List.Mem _ _); with_reducible_and_instances assumption)
  k_with "top_args" =>
    first | exact List.forall_mem_nil _ | (refine List.forall_mem_cons.mpr (And.intro ?_ ?_); kat_tups; top_args) | (refine List.forall_mem_append.mpr (And.intro ?_ ?_); top_args; top_args) | (intro q hq; kat_tups)
  k_with "mem_news" =>
    first | ((with_reducible_and_instances (repeat (first | exact List.Mem.head _ | refine List.Mem.tail _ ?_))); done) | ((with_reducible show _ ∈ _); kat_tups) | ((try dsimp only [penL, booksL, mled, List.cons_append, List.nil_append]); top_args)
  k_with "ltD" =>
    first | with_reducible assumption | exact lt_l1 (by with_reducible assumption) (by kat_tups) | omega
  k_with "k_ne" =>
    (refine neN ?_; (try dsimp only); first | with_reducible assumption | with_reducible exact Ne.symm (by with_reducible assumption) | with_reducible exact Nat.ne_of_lt (by with_reducible assumption) | with_reducible exact Nat.ne_of_gt (by with_reducible assumption) | exact ne_l1 (by with_reducible assumption) (by kat_tups) | exact Ne.symm (ne_l1 (by with_reducible assumption) (by kat_tups)) | exact ne_l1s (by with_reducible assumption) (by kat_tups) | exact Ne.symm (ne_l1s (by with_reducible assumption) (by kat_tups)) | exact ne_lt2 (by with_reducible assumption) (by with_reducible assumption) (by kat_tups) | exact Ne.symm (ne_lt2 (by with_reducible assumption) (by with_reducible assumption) (by kat_tups)) | exact Anew.ne (by with_reducible assumption) (by kat_tups) | exact Ne.symm (Anew.ne (by with_reducible assumption) (by kat_tups)) | omega)
  k_with "k_all" =>
    first | exact List.forall_mem_nil _ | with_reducible assumption | exact tail_l1 (by with_reducible assumption) (by intro q hq; kat_tups) | (refine' List.forall_mem_cons.mpr ⟨?kaa, ?kab⟩; (case kaa => k_ne); (case kab => k_all))
  k_with "k_allIn" =>
    first | exact True.intro | with_reducible assumption | ((with_reducible refine AllNe.app ?_ ?_) <;> k_allIn) | (refine And.intro ?kah ?_; (case kah => k_memK); k_allIn)
  k_with "useC" =>
    (
      (case F => k_asm)
      (case N => k_asm)
      (case A => exact rfl)
      (case L => exact rfl)
      (case K => intro h9; cases h9)
      (case d => ktr_room)
      (case u => ktr_units)
      (case P => tb_start)
      (case ne => k_allIn))
  k_with "dipC" =>
    (
      (case ta => with_reducible assumption)
      (case tb => assumption)
      (case tc => assumption)
      k_extra "useC"
      (case tg => first | with_reducible assumption | omega)
      (case th => first | exact PB.lt6 (by with_reducible assumption) (by with_reducible assumption) (by decide) | exact PB.lt (by with_reducible assumption) (by with_reducible assumption) (by decide) | omega)
      (case ti => first | with_reducible assumption | omega))
  k_with "pbStep" =>
    (have hPB := PB.step (by with_reducible assumption) hp1)
  k_with "eval Tuple" =>
    ((try dsimp only); k_dflt (refine' tuple_atomsL ?saF ?saN ?sae ?saH ?saz ?_ ?sak; (case saF => k_asm); (case sae => exact rfl); (case saN => k_asm); (case sak => exact rfl); (case saH => k_extra "atoms"); (case saz => kmk_size)); intro D' h' nw' F' N' l1; (try k_lt l1); (try k_sweep))
  k_with "eval List" =>
    ((try dsimp only); k_dflt (refine' list_atomsL ?saF ?saN ?sae ?saH ?saz ?_ ?sak; (case saF => k_asm); (case sae => exact rfl); (case saN => k_asm); (case sak => exact rfl); (case saH => k_extra "atoms"); (case saz => kmk_size); k_whole); intro l' h' nw' F' N' l1; (try k_lt l1); (try k_sweep))
  k_with "newTuple" =>
    ((try dsimp only); k_dflt (refine' newTupleL ?F ?N ?_ ?z; (case F => k_asm); (case N => k_asm); (case z => kmk_size)); intro D' h' nw' F' N' l1; (try k_sweep))
  k_with "newList" =>
    ((try dsimp only); k_dflt (refine' newListL ?F ?N ?_ ?z; (case F => k_asm); (case N => k_asm); (case z => kmk_size)); intro D' h' nw' F' N' l1; (try k_sweep))
  k_with "storeName" =>
    ((try dsimp only); k_dflt (refine' storeL ?F ?N ?_ ?a ?b; (case F => k_asm); (case N => k_asm); (case a => exact rfl); (case b => exact rfl); k_whole); intro h' mm' F' N'; (try k_sweep))
  k_with "hasK" =>
    first | with_reducible assumption | exact Has.six | (refine' Has.cons ?_; k_extra "hasK")
  k_with "k_allIn" =>
    first | exact True.intro | with_reducible assumption | (refine' Has.allNe ?hhh ?hhl ?_; (case hhl => with_reducible assumption); (case hhh => k_extra "hasK"); k_allIn) | (refine' Has.allNe2 ?hhh ?hhl ?_; (case hhl => with_reducible assumption); (case hhh => k_extra "hasK"); k_allIn) | ((with_reducible refine AllNe.app ?_ ?_) <;> k_allIn) | (refine And.intro ?kah ?_; (case kah => k_memK); k_allIn)
  k_with "small" =>
    first | with_reducible assumption | omega
  k_with "call ref" =>
    (k_dflt (
      (with_reducible show wpAny _ _ (call (Value.ref 256) _) _ _ _)
      (refine' token_use ?uo ?us ?ul ?ux ?uk X T B' ?F ?N ?A ?L ?K ?d ?u ?P ?ne ?_)
      (case uo => assumption)
      (case ux => assumption)
      k_extra "useC"
      (case us => assumption)
      (case ul => k_extra "small")
      (case uk => first | assumption | exact hkp (by assumption))
      intro ts' te' h' tk' nw' hs' F' N'
      (try k_sweep)))
  k_with "call ref" =>
    (k_dflt (
      (with_reducible show wpAny _ _ (call (Value.ref 291) _) _ _ _)
      (refine' use_use ?uo ?us ?ul ?ux ?uk X T B' ?F ?N ?A ?L ?K ?d ?u ?P ?ne ?_)
      (case uo => assumption)
      (case ux => assumption)
      k_extra "useC"
      (case us => assumption)
      (case ul => k_extra "small")
      (case uk => first | assumption | exact hkp (by assumption))
      intro ts' te' h' tk' nw' hs' F' N'
      (try k_sweep)))
  k_with "call ref" =>
    (k_dflt (
      (with_reducible show wpAny _ _ (call (Value.ref 284) _) _ _ _)
      (refine' left_use ?uo ?us ?ul X T B' ?F ?N ?A ?L ?K ?d ?u ?P ?ne ?_)
      (case uo => assumption)
      k_extra "useC"
      (case us => assumption)
      (case ul => k_extra "small")
      intro ls' le' h' tk' nw' hs' F' N'
      (try k_sweep)))
  k_with "k_ne" =>
    (refine neN ?_; (try dsimp only); first | with_reducible assumption | with_reducible exact Ne.symm (by with_reducible assumption) | with_reducible exact Nat.ne_of_lt (by with_reducible assumption) | with_reducible exact Nat.ne_of_gt (by with_reducible assumption) | exact ne_l1 (by with_reducible assumption) (by kat_tups) | exact Ne.symm (ne_l1 (by with_reducible assumption) (by kat_tups)) | exact ne_mem (by with_reducible assumption) (by kat_tups) | exact Ne.symm (ne_mem (by with_reducible assumption) (by kat_tups)) | exact ne_l1s (by with_reducible assumption) (by kat_tups) | exact Ne.symm (ne_l1s (by with_reducible assumption) (by kat_tups)) | exact ne_lt2 (by with_reducible assumption) (by with_reducible assumption) (by kat_tups) | exact Ne.symm (ne_lt2 (by with_reducible assumption) (by with_reducible assumption) (by kat_tups)) | exact Anew.ne (by with_reducible assumption) (by kat_tups) | exact Ne.symm (Anew.ne (by with_reducible assumption) (by kat_tups)) | omega)
  k_with "k_all" =>
    first | exact List.forall_mem_nil _ | with_reducible assumption | exact tail_l1 (by with_reducible assumption) (by intro q hq; kat_tups) | exact AllNe.off (by with_reducible assumption) (by (repeat (first | exact List.Mem.head _ | refine List.Mem.tail _ ?_))) | (refine' List.forall_mem_cons.mpr ⟨?kaa, ?kab⟩; (case kaa => k_ne); (case kab => k_all)) | ((refine List.forall_mem_append.mpr (And.intro ?_ ?_)) <;> k_all)
  k_with "call builtin:len" =>
    ((with_reducible show wpAny _ _ (call (Value.builtin "len") [Value.ref _]) _ _ _); k_dflt (refine' len_L ?ll ?lz ?_; (case ll => (refine' isL ?lN ?lm; (case lN => k_asm); (case lm => mem_news))); (case lz => first | omega | (simp only [List.length_append, List.length_cons, List.length_nil]; omega)); k_whole))
  k_with "ltSkip" => skip
  trivial
/-- a draft, in the mind -/
structure DraftD where
  left : Str
  right : List Str
  prec : Option Str
  action : Option Str
  line : Int
  before : Int
abbrev dattrs (w : World) (k1 k2 k3 k4 k5 k6 : Tok) (lv rv pv av nv bv : Value) : List DictEntry :=
  [⟨PyData.keyHash w.params "left", .str "left" k1, lv⟩, ⟨PyData.keyHash w.params "right", .str "right" k2, rv⟩, ⟨PyData.keyHash w.params "prec", .str "prec" k3, pv⟩,
   ⟨PyData.keyHash w.params "action", .str "action" k4, av⟩, ⟨PyData.keyHash w.params "line", .str "line" k5, nv⟩, ⟨PyData.keyHash w.params "before", .str "before" k6, bv⟩]
inductive DraftOn (w : World) (P : Mp) (v : Value) (D : DraftD) : Prop
  | mk (x d l k1 k2 k3 k4 k5 k6 lt pv av nt bt rs e) : (v = .ref x) → (P x (instObj 224 d)) → (P d (dictOf (dattrs w k1 k2 k3 k4 k5 k6 (.str D.left lt) (.ref l) pv av (.int D.line nt) (.int D.before bt)) 6)) → (P l (listOf (rs : List Value).toArray e)) → (StrsAre rs D.right) → (OptS pv D.prec) → (OptS av D.action) → DraftOn w P v D
theorem DraftOn.mono {w : World} {P P' : Mp} {v : Value} {D : DraftD} (m : ∀ a o, P a o → P' a o) (H : DraftOn w P v D) : DraftOn w P' v D := by
  obtain ⟨x, d, l, k1, k2, k3, k4, k5, k6, lt, pv, av, nt, bt, rs, e, q, a, b, c, r1, r2, r3⟩ := H
  exact ⟨x, d, l, k1, k2, k3, k4, k5, k6, lt, pv, av, nt, bt, rs, e, q, m _ _ a, m _ _ b, m _ _ c, r1, r2, r3⟩
section
variable {w : World} {loose : List Str} {mean : ExcName → Option Value} {mg mb : Str → Option Value} {base : Heap}
theorem OptS.handed {v : Value} : ∀ {o : Option Str}, OptS v o → handedIn v = true
  | _, .none => rfl
  | _, .some _ _ => rfl
noncomputable def DPost (w : World) (lv rv pv av nv bv : Value) (fact : Prop) (x dx : Addr) (n : List (Addr × Obj)) : Prop := fact ∧ ∃ k1 k2 k3 k4 k5 k6, n = [(x, instObj 224 dx), (dx, dictOf (dattrs w k1 k2 k3 k4 k5 k6 lv rv pv av nv bv) 6)]
theorem d_init {h : Heap} {x dx r : Addr} {y : Str} {t1 t2 t3 : Tok} {n1 n2 : Int} {pv av : Value} {po ao : Option Str} {fact : Prop} (hf : fact) (hpv : OptS pv po) (hav : OptS av ao) (l : @LT.lt Nat instLTNat dx x) :
    FP base h [(x, instObj 224 dx), (dx, dictOf [] 0)] → Spec w loose mean mg mb base 221 [.ref x, .str y t1, .ref r, pv, av, .int n1 t2, .int n2 t3] 3 h [(x, instObj 224 dx), (dx, dictOf [] 0)]
      (fun v n => v = .none ∧ DPost w (.str y t1) (.ref r) pv av (.int n1 t2) (.int n2 t3) fact x dx n) False := by
  intro fp
  have h1 := hpv.handed
  have h2 := hav.handed
  ktr_enter
  k_steps
  exact leaveC (by k_asm) (by k_asm) fun kp nw => ret _ _ _ _ kp nw ⟨rfl, hf, _, _, _, _, _, _, rfl⟩
theorem draft_use {A A₀ : Around} {env : Env} {E : Value → Shared → Prop} {hp : Heap} {gn : Array GenState} {dr : Drawn} {tk : Nat} {os : OsState} {g : Heap} {L r : Addr} {m : Str → Option Value} {news : List (Addr × Obj)} {Q : Value → Shared → Prop} {frs : List Env} {dp un : Nat} {gd : Option (List Code)} {y : Str} {t1 t2 t3 : Tok} {n1 n2 : Int} {pv av : Value} {po ao : Option Str} (hpv : OptS pv po) (hav : OptS av ao)
    (X : (frag.heap_1 w.params).In base) (T : Top view loose mean mg mb base) (B : Below A₀ base frs g) (F : Fr g L hp m) (N : News g L hp news) (X' : (frag.heap_1 w.params).In g)
    (hA : A = Ar dp un gd (env :: frs)) (hL : env.frame = some L) (hke : env.scope.kind ≠ .module) (hd : dp + 1 + 3 < recursionLimit) (hu : un + 1 + 8 * 3 < cLine)
    (ret : ∀ x dx k1 k2 k3 k4 k5 k6 h' tk', Fr g L h' m → News g L h' ((x, instObj 224 dx) :: (dx, dictOf (dattrs w k1 k2 k3 k4 k5 k6 (.str y t1) (.ref r) pv av (.int n1 t2) (.int n2 t3)) 6) :: news) → (∀ p ∈ news, p.1 < dx) → @LT.lt Nat instLTNat dx x → Q (.ref x) ⟨h', gn, dr, tk', os⟩) :
    wpAny (model prg w) A (call (.ref 224) [.str y t1, .ref r, pv, av, .int n1 t2, .int n2 t3]) Q E ⟨hp, gn, dr, tk, os⟩ := by
  refine newP (C := 224) (fI := 221) (k := 3) (Post := fun x dx n => DPost w (.str y t1) (.ref r) pv av (.int n1 t2) (.int n2 t3) ((∀ p ∈ news, p.1 < dx) ∧ @LT.lt Nat instLTNat dx x) x dx n) (fun x dx h' F' N' l1 l2 => d_init ⟨l1, l2⟩ hpv hav l2) X T B F N X' hA hL hke hd hu (by k_is) (by k_is) (by k_is) fun x dx h' tk' news' po F' N' hne => ?_
  obtain ⟨⟨l1, l2⟩, k1, k2, k3, k4, k5, k6, rfl⟩ := po
  exact ret x dx k1 k2 k3 k4 k5 k6 h' tk' F' N' l1 l2
end
theorem words_B11b : True := by
  k_with "call ref" => ((try dsimp only [List.cons_append, List.nil_append]); k_dflt (
    (with_reducible show wpAny _ _ (call (Value.ref 224) _) _ _ _)
    (refine' draft_use ?dpv ?dav X T B' ?F ?N X' ?A ?L ?K ?d ?u ?_)
    (case dpv => first | with_reducible assumption | exact OptS.none | exact OptS.some _ _)
    (case dav => first | with_reducible assumption | exact OptS.none | exact OptS.some _ _)
    (case F => k_asm)
    (case N => k_asm)
    (case A => exact rfl)
    (case L => exact rfl)
    (case K => intro h9; cases h9)
    (case d => ktr_room)
    (case u => ktr_units)
    intro x' d' kd1 kd2 kd3 kd4 kd5 kd6 h' tk' F' N' l1 l2))
  trivial
noncomputable def mname (mc : Int) : Str := Str.ofString "$@" ++ Str.ofString (toString (mc + 1))
section
variable {w : World} {loose : List Str} {mean : ExcName → Option Value} {mg mb : Str → Option Value} {base : Heap}
variable {h : Heap} {m : MA} {lc : Int} {lct : Tok} {mc : Int} {mct : Tok} {st ex : Value} {ts : List Value} {te : Nat} {lo : Obj} {ds : List Value} {de : Nat} {ls : List Value} {le : Nat} {ss zs : List Str}
noncomputable def MidPost (w : World) (m : MA) (lc : Int) (lct : Tok) (mc : Int) (st ex : Value) (ts : List Value) (te : Nat) (lo : Obj) (ds : List Value) (zs : List Str) (x : Str) (ln b4 : Int) (v : Value) (n : List (Addr × Obj)) : Prop :=
  ∃ t' ls' le' mct' x' de' nd, v = .str (mname mc) t' ∧ n = mled w m lc lct (mc + 1) mct' st ex ts te lo (ds ++ [.ref x']) de' ls' le' ++ nd ∧ StrsAre ls' (addNew zs (mname mc)) ∧
        AllNe [m.x, m.d, m.t, m.lv, m.dr, m.lf] nd ∧ DraftOn w (inl nd) (.ref x') ⟨mname mc, [], none, some x, ln, b4⟩
theorem mid_end {fp : List Addr} {h h' : Heap} {x' d' l' : Addr} {k1 k2 k3 k4 k5 k6 lt nt bt t mct' : Tok} {ls' : List Value} {le' de' e : Nat} {x : Str} {ln b4 : Int}
    (nw : Nw fp h h' ((x', instObj 224 d') :: (d', dictOf (dattrs w k1 k2 k3 k4 k5 k6 (.str (mname mc) lt) (.ref l') .none (.str x t) (.int ln nt) (.int b4 bt)) 6) :: (l', W.listOf #[] e) :: mled w m lc lct (mc + 1) mct' st ex ts te lo (ds ++ [.ref x']) de' ls' le'))
    (hs : StrsAre ls' (addNew zs (mname mc))) (ne : AllNe [m.x, m.d, m.t, m.lv, m.dr, m.lf] [(x', instObj 224 d'), (d', dictOf (dattrs w k1 k2 k3 k4 k5 k6 (.str (mname mc) lt) (.ref l') .none (.str x t) (.int ln nt) (.int b4 bt)) 6), (l', W.listOf #[] e)]) :
    ∃ n, Nw fp h h' n ∧ MidPost w m lc lct mc st ex ts te lo ds zs x ln b4 (.str (mname mc) lt) n := by
  let nd : List (Addr × Obj) := [(x', instObj 224 d'), (d', dictOf (dattrs w k1 k2 k3 k4 k5 k6 (.str (mname mc) lt) (.ref l') .none (.str x t) (.int ln nt) (.int b4 bt)) 6), (l', W.listOf #[] e)]
  have dr : DraftOn w (inl nd) (.ref x') ⟨mname mc, [], none, some x, ln, b4⟩ := ⟨x', d', l', k1, k2, k3, k4, k5, k6, lt, .none, .str x t, nt, bt, [], e, rfl, .head _, .tail _ (.head _), .tail _ (.tail _ (.head _)), .nil, .none, .some _ _⟩
  refine ⟨mled w m lc lct (mc + 1) mct' st ex ts te lo (ds ++ [.ref x']) de' ls' le' ++ nd, nw.sub ?_, lt, ls', le', mct', x', de', nd, rfl, rfl, hs, ne, dr⟩
  intro p hp
  simp only [nd, List.mem_append, List.mem_cons, List.not_mem_nil, or_false] at hp ⊢
  rcases hp with hp | hp
  · exact .inr (.inr (.inr hp))
  · rcases hp with hp | hp | hp
    · exact .inl hp
    · exact .inr (.inl hp)
    · exact .inr (.inr (.inl hp))
theorem middle_ok {x : Str} {t t2 t3 : Tok} {ln b4 : Int} (o : m.Ok) (hs : StrsAre ls zs) (hl : ls.length < 1000) (hm0 : 0 ≤ mc) (hm : mc < 1000) (hd : ds.length < 1000) :
    FP base h (mled w m lc lct mc mct st ex ts te lo ds de ls le) → Spec w loose mean mg mb base 298 [.ref m.x, .str x t, .int ln t2, .int b4 t3] 3 h (mled w m lc lct mc mct st ex ts te lo ds de ls le)
      (fun v n => MidPost w m lc lct mc st ex ts te lo ds zs x ln b4 v n) False := by
  have o' := o
  refine o'.cps ?_
  intro a1 a2 a3 a4 a5 a6 a7 a8 a9 a10 a11 a12 a13 a14 a15
  intro fp
  ktr_enter
  refine foldN N' ?_
  clear N'
  intro nw' N'
  k_steps
  all_goals (try dsimp only)
  all_goals (try k_steps)
  all_goals refine leaveC (by k_asm) (by k_asm) fun kp nw => ?_
  all_goals obtain ⟨n9, hn9, hp9⟩ := mid_end nw hs' (by k_allIn)
  all_goals exact ret _ _ _ n9 kp hn9 hp9
end
theorem allLt_ne {d : Addr} {l : List (Addr × Obj)} (h : AllLt d l) : ∀ p ∈ l, p.1 ≠ d := by
  induction l with
  | nil => exact fun _ h => nomatch h
  | cons q r ih =>
    intro p hp
    rcases List.mem_cons.mp hp with rfl | hp
    · exact Nat.ne_of_lt h.1
    · exact ih h.2 p hp
theorem IsList_Fr {g h : Heap} {L l : Addr} {m : Str → Option Value} {vs : Array Value} (F : Fr g L h m) (hl : g.IsList l vs) : h.IsList l vs := hl.at fun o e => F.keep l o e
theorem IsTup_Fr {g h : Heap} {L l : Addr} {m : Str → Option Value} {vs : Array Value} (F : Fr g L h m) (hl : g.IsTuple l vs) : h.IsTuple l vs := hl.at fun o e => F.keep l o e
theorem addNew_len (ss : List Str) (x : Str) : (addNew ss x).length ≤ ss.length + 1 := by unfold addNew; split <;> simp
theorem PartsOn_Fr {g h : Heap} {L : Addr} {m : Str → Option Value} {vs : List Value} {ps : List Part} (F : Fr g L h m) (hl : PartsOn (inh g) vs ps) : PartsOn (inh h) vs ps := hl.mono fun a o e => F.keep a o e
theorem len_L {A : Around} {E : Value → Shared → Prop} {s : Shared} {prog : Program} {w : World} {l : Addr} {vs : List Value} {Q : Value → Shared → Prop} (hl : s.heap.IsList l vs.toArray) (hz : vs.length < 1000000)
    (h : Q (.int vs.length (s.toks + 1)) { s with toks := s.toks + 1 + 1 }) : wpAny (model prog w) A (call (.builtin "len") [.ref l]) Q E s :=
  Calls.call_len_list hl (by rw [List.size_toArray]; omega) (by rw [List.size_toArray]; exact h)
theorem item_B {A : Around} {E : Value → Shared → Prop} {s : Shared} {prog : Program} {w : World} {x1 x2 : Str} {p1 p2 : Pos} {l : Addr} {vs : List Value} {i : Nat} {u : Tok} {x : Value} {Q : Value → Shared → Prop} (hl : s.heap.IsList l vs.toArray)
    (hx : vs[i]? = some x) (hz : i < 1000000) (h : Q x s) : wpAny (model prog w) A (subscriptTail (.Name x1 p1) (.Name x2 p2) (.ref l) (.int (i : Int) u)) Q E s :=
  item_list hl (by omega) (by omega) (by rw [Int.toNat_natCast, List.getElem?_toArray]; exact hx) h
structure RS where
  ts : List Str
  ls : List Str
  mc : Int
  ds : List DraftD
  right : List Str
  act : Option Str
noncomputable def partStep (n : Nat) (ln : Int) (S : RS) (i : Nat) (p : Part) : RS :=
  if p.1 == Str.ofString "sym" then { S with ts := useTok S.ts p.2, right := S.right ++ [p.2] }
  else if i + 1 = n then { S with act := some p.2 }
  else { S with mc := S.mc + 1, ls := addNew S.ls (mname S.mc), ds := S.ds ++ [⟨mname S.mc, [], none, some p.2, ln, S.right.length⟩], right := S.right ++ [mname S.mc] }
noncomputable def partsRun (ps : List Part) (ln : Int) (S : RS) : Nat → RS
  | 0 => S
  | i + 1 => match ps[i]? with
    | some p => partStep ps.length ln (partsRun ps ln S i) i p
    | none => partsRun ps ln S i
noncomputable def RLed (w : World) (m : MA) (lc : Int) (lct : Tok) (st ex : Value) (lo : Obj) (ds : List Value) (r : Addr) (S : RS) (av : Value) (nx : List (Addr × Obj)) : Prop :=
  ∃ mct ts te ls le ds2 de nd rs re, nx = (r, listOf (rs : List Value).toArray re) :: (mled w m lc lct S.mc mct st ex ts te lo (ds ++ ds2) de ls le ++ nd) ∧ StrsAre ts S.ts ∧ StrsAre ls S.ls ∧ StrsAre rs S.right ∧ OptS av S.act ∧
    AllNe [m.x, m.d, m.t, m.lv, m.dr, m.lf] nd ∧ (∀ p ∈ nd, p.1 ≠ r) ∧ All2 (DraftOn w (inl nd)) ds2 S.ds
theorem addTok_len (ss : List Str) (x : Str) : (addTok ss x).length ≤ ss.length + 1 := by unfold addTok; split <;> simp
theorem useTok_len (ss : List Str) (x : Str) : (useTok ss x).length ≤ ss.length + 1 := by
  unfold useTok; split
  · exact addTok_len _ _
  · exact Nat.le_succ _
noncomputable def Grown (S S' : RS) (i : Nat) : Prop := S'.ts.length ≤ S.ts.length + i ∧ S'.ls.length ≤ S.ls.length + i ∧ S'.ds.length ≤ S.ds.length + i ∧ S'.right.length ≤ S.right.length + i ∧ S.mc ≤ S'.mc ∧ S'.mc ≤ S.mc + i
theorem Grown.trans {S S' S2 : RS} {i : Nat} (h : Grown S S' i) (k : Grown S' S2 1) : Grown S S2 (i + 1) :=
  ⟨Nat.le_trans k.1 (Nat.succ_le_succ h.1), Nat.le_trans k.2.1 (Nat.succ_le_succ h.2.1), Nat.le_trans k.2.2.1 (Nat.succ_le_succ h.2.2.1), Nat.le_trans k.2.2.2.1 (Nat.succ_le_succ h.2.2.2.1), Int.le_trans h.2.2.2.2.1 k.2.2.2.2.1,
    Int.le_trans k.2.2.2.2.2 (by have := h.2.2.2.2.2; clear h k; omega)⟩
theorem step_small (n : Nat) (ln : Int) (S : RS) (i : Nat) (p : Part) : Grown S (partStep n ln S i p) 1 := by
  have z : ∀ a : Nat, a ≤ a + 1 := Nat.le_succ
  have y : ∀ a : Int, a ≤ a + (1 : Nat) := fun a => by omega
  unfold partStep
  split
  · exact ⟨useTok_len _ _, z _, z _, Nat.le_of_eq (List.length_append ..), Int.le_refl _, y _⟩
  · split
    · exact ⟨z _, z _, z _, z _, Int.le_refl _, y _⟩
    · exact ⟨z _, addNew_len _ _, Nat.le_of_eq (List.length_append ..), Nat.le_of_eq (List.length_append ..), y _, Int.le_refl _⟩
theorem run_small (ps : List Part) (ln : Int) (S : RS) : ∀ i, Grown S (partsRun ps ln S i) i
  | 0 => ⟨Nat.le_refl _, Nat.le_refl _, Nat.le_refl _, Nat.le_refl _, Int.le_refl _, by show S.mc ≤ S.mc + (0 : Nat); omega⟩
  | i + 1 => by
    have ih := run_small ps ln S i
    rw [partsRun]
    cases ps[i]? with
    | none => exact ih.trans ⟨Nat.le_succ _, Nat.le_succ _, Nat.le_succ _, Nat.le_succ _, Int.le_refl _, by dsimp only; omega⟩
    | some p => exact ih.trans (step_small ..)
theorem run_succ {ps : List Part} {ln : Int} {S S' : RS} {i : Nat} {p : Part} (h : ps[i]? = some p) (e : partsRun ps ln S i = S') : partsRun ps ln S (i + 1) = partStep ps.length ln S' i p := by
  rw [partsRun, h, e]
theorem ok_part {x : Str} {ps : List Part} {po : Option Str} {i : Nat} {p : Part} (h : crOk x ps po = true) (hi : ps[i]? = some p) : partBad p = false := by
  cases hb : partBad p with
  | false => rfl
  | true => rw [crOk_part hi hb] at h; cases h
theorem ok_sym {p1 p2 : Str} (h : partBad (p1, p2) = false) (q : (p1 == Str.ofString "sym") = true) : kept p2 = false := by
  simp only [partBad, q, if_true] at h; exact h
theorem step_sym {n : Nat} {ln : Int} {sts sls : List Str} {smc : Int} {sds : List DraftD} {srt : List Str} {sact : Option Str} {i : Nat} {p1 p2 : Str} (h : (p1 == Str.ofString "sym") = true) : partStep n ln ⟨sts, sls, smc, sds, srt, sact⟩ i (p1, p2) = ⟨useTok sts p2, sls, smc, sds, srt ++ [p2], sact⟩ := by
  simp only [partStep, h, if_true]
theorem step_act {n : Nat} {ln : Int} {sts sls : List Str} {smc : Int} {sds : List DraftD} {srt : List Str} {sact : Option Str} {i : Nat} {p1 p2 : Str} (h : (p1 == Str.ofString "sym") = false) (q : i + 1 = n) : partStep n ln ⟨sts, sls, smc, sds, srt, sact⟩ i (p1, p2) = ⟨sts, sls, smc, sds, srt, some p2⟩ := by
  simp only [partStep, h, if_pos q, Bool.false_eq_true, if_false]
theorem step_mid {n : Nat} {ln : Int} {sts sls : List Str} {smc : Int} {sds : List DraftD} {srt : List Str} {sact : Option Str} {i : Nat} {p1 p2 : Str} (h : (p1 == Str.ofString "sym") = false) (q : ¬ i + 1 = n) : partStep n ln ⟨sts, sls, smc, sds, srt, sact⟩ i (p1, p2) = ⟨sts, addNew sls (mname smc), smc + 1, sds ++ [⟨mname smc, [], none, some p2, ln, srt.length⟩], srt ++ [mname smc], sact⟩ := by
  simp only [partStep, h, if_neg q, Bool.false_eq_true, if_false]
theorem swap_app {α : Type} {a b t : List α} : ∀ q ∈ a ++ (b ++ t), q ∈ b ++ (a ++ t) := fun _ h => (List.mem_append.mp h).elim (fun h => List.mem_append.mpr (.inr (List.mem_append.mpr (.inl h)))) fun h => (List.mem_append.mp h).elim (fun h => List.mem_append.mpr (.inl h)) fun h => List.mem_append.mpr (.inr (List.mem_append.mpr (.inr h)))
theorem keep_app {α : Type} {a l l' : List α} (s : ∀ q ∈ l, q ∈ l') : ∀ q ∈ a ++ l, q ∈ a ++ l' := fun q h => (List.mem_append.mp h).elim (fun h => List.mem_append.mpr (.inl h)) fun h => List.mem_append.mpr (.inr (s q h))
theorem rot8 {α : Type} {a b c d e f i r : α} {nd : List α} : ∀ p ∈ i :: r :: a :: b :: c :: d :: e :: f :: nd, p ∈ a :: b :: c :: d :: e :: f :: i :: r :: nd := swap_app (a := [i, r]) (b := [a, b, c, d, e, f])
theorem rotA {α : Type} {a b c d e f x y r : α} {nd : List α} : ∀ p ∈ [a, b, c, d, e, f] ++ x :: y :: r :: nd, p ∈ x :: y :: a :: b :: c :: d :: e :: f :: r :: nd := swap_app (a := [a, b, c, d, e, f]) (b := [x, y])
theorem rotB {α : Type} {a b c d e f x y r : α} {nd : List α} : ∀ p ∈ x :: y :: a :: b :: c :: d :: e :: f :: r :: nd, p ∈ x :: y :: r :: a :: b :: c :: d :: e :: f :: nd := keep_app (a := [x, y]) (swap_app (a := [a, b, c, d, e, f]) (b := [r]))
theorem AllNe.app {fp : List Addr} {l l' : List (Addr × Obj)} (h : AllNe fp l) (h' : AllNe fp l') : AllNe fp (l ++ l') := by
  induction l with
  | nil => exact h'
  | cons q r ih => exact ⟨h.1, ih h.2⟩
theorem strs_snoc {vs : List Value} {ss : List Str} {x : Str} {t : Tok} (h : StrsAre vs ss) : StrsAre (vs ++ [.str x t]) (ss ++ [x]) := h.append' (.cons _ _ .nil)
theorem last_yes {i n k : Nat} (h : (i : Int) = (n : Int) - 1) (e : n = k) : i + 1 = k := by omega
theorem last_no {i n k : Nat} (h : (i : Int) ≠ (n : Int) - 1) (e : n = k) : ¬ i + 1 = k := by omega
theorem ok_prec {x y : Str} {ps : List Part} (h : crOk x ps (some y) = true) : kept y = false := by
  cases hb : kept y with
  | false => rfl
  | true => rw [crOk_prec hb] at h; cases h
noncomputable def ruleEnd (x : Str) (ps : List Part) (po : Option Str) (ln : Int) (ss zs : List Str) (mc : Int) : RS :=
  let S := partsRun ps ln ⟨ss, addNew zs x, mc, [], [], none⟩ ps.length
  ⟨match po with | none => S.ts | some y => useTok S.ts y, S.ls, S.mc, S.ds ++ [⟨x, S.right, po, S.act, ln, 0⟩], S.right, S.act⟩
theorem ruleEnd_eq {x : Str} {ps : List Part} {po : Option Str} {ln : Int} {ss zs : List Str} {mc : Int} {n : Nat} {S : RS} (hn : n = ps.length) (hS : partsRun ps ln ⟨ss, addNew zs x, mc, [], [], none⟩ n = S) : ruleEnd x ps po ln ss zs mc = ⟨match po with | none => S.ts | some y => useTok S.ts y, S.ls, S.mc, S.ds ++ [⟨x, S.right, po, S.act, ln, 0⟩], S.right, S.act⟩ := by
  subst hn; rw [← hS]; rfl
noncomputable def RulePost (w : World) (m : MA) (lc : Int) (lct : Tok) (st ex : Value) (lo : Obj) (ds : List Value) (S : RS) (v : Value) (n : List (Addr × Obj)) : Prop :=
  v = .none ∧ ∃ mct ts te ls le ds2 de nd, n = mled w m lc lct S.mc mct st ex ts te lo (ds ++ ds2) de ls le ++ nd ∧ StrsAre ts S.ts ∧ StrsAre ls S.ls ∧ AllNe [m.x, m.d, m.t, m.lv, m.dr, m.lf] nd ∧ All2 (DraftOn w (inl nd)) ds2 S.ds
theorem rule_endA {w : World} {m : MA} {lc : Int} {lct : Tok} {st ex : Value} {lo : Obj} {fp : List Addr} {h h' : Heap} {x' d' r : Addr} {k1 k2 k3 k4 k5 k6 lt nt bt mct : Tok} {mc : Int} {ts ls rs ds ds2 : List Value} {te le de re : Nat} {pv av : Value} {x : Str} {ln : Int} {nd : List (Addr × Obj)}
    {S : RS} {T Ls right rt0 : List Str} {Ds : List DraftD} {po act ac0 : Option Str}
    (nw : Nw fp h h' ((x', instObj 224 d') :: (d', dictOf (dattrs w k1 k2 k3 k4 k5 k6 (.str x lt) (.ref r) pv av (.int ln nt) (.int 0 bt)) 6) :: (m.x, instObj 335 m.d) :: (m.d, dictOf (attrs w m lc lct mc mct st ex) 8) :: (m.t, W.listOf ts.toArray te) :: (m.lv, lo) ::
      (m.dr, W.listOf (ds ++ ds2 ++ [Value.ref x']).toArray de) :: (m.lf, W.listOf ls.toArray le) :: (r, W.listOf rs.toArray re) :: nd))
    (hE : S = ⟨T, Ls, mc, Ds ++ [⟨x, right, po, act, ln, 0⟩], rt0, ac0⟩) (hT : StrsAre ts T) (hL : StrsAre ls Ls) (hR : StrsAre rs right) (hp : OptS pv po) (ha : OptS av act) (hD : All2 (DraftOn w (inl nd)) ds2 Ds)
    (ne : AllNe [m.x, m.d, m.t, m.lv, m.dr, m.lf] ((x', instObj 224 d') :: (d', dictOf (dattrs w k1 k2 k3 k4 k5 k6 (.str x lt) (.ref r) pv av (.int ln nt) (.int 0 bt)) 6) :: (r, W.listOf rs.toArray re) :: nd)) :
    ∃ n, Nw fp h h' n ∧ RulePost w m lc lct st ex lo ds S .none n := by
  subst hE
  have ea : ds ++ (ds2 ++ [Value.ref x']) = ds ++ ds2 ++ [Value.ref x'] := (List.append_assoc _ _ _).symm
  let nd2 : List (Addr × Obj) := (x', instObj 224 d') :: (d', dictOf (dattrs w k1 k2 k3 k4 k5 k6 (.str x lt) (.ref r) pv av (.int ln nt) (.int 0 bt)) 6) :: (r, W.listOf rs.toArray re) :: nd
  have dr : DraftOn w (inl nd2) (.ref x') ⟨x, right, po, act, ln, 0⟩ := ⟨x', d', r, k1, k2, k3, k4, k5, k6, lt, pv, av, nt, bt, rs, re, rfl, .head _, .tail _ (.head _), .tail _ (.tail _ (.head _)), hR, hp, ha⟩
  refine ⟨mled w m lc lct mc mct st ex ts te lo (ds ++ (ds2 ++ [Value.ref x'])) de ls le ++ nd2, nw.sub ?_, rfl, mct, ts, te, ls, le, ds2 ++ [.ref x'], de, nd2, rfl, hT, hL, ne, ?_⟩
  · rw [ea]
    exact rotA
  · exact (hD.mono fun _ _ => DraftOn.mono fun _ _ h => .tail _ (.tail _ (.tail _ h))).append (.cons dr .nil)
theorem rule_endB {w : World} {m : MA} {lc : Int} {lct : Tok} {st ex : Value} {lo : Obj} {fp : List Addr} {h h' : Heap} {x' d' r : Addr} {k1 k2 k3 k4 k5 k6 lt nt bt mct : Tok} {mc : Int} {ts ls rs ds ds2 : List Value} {te le de re : Nat} {pv av : Value} {x : Str} {ln : Int} {nd : List (Addr × Obj)}
    {S : RS} {T Ls right rt0 : List Str} {Ds : List DraftD} {po act ac0 : Option Str}
    (nw : Nw fp h h' ((x', instObj 224 d') :: (d', dictOf (dattrs w k1 k2 k3 k4 k5 k6 (.str x lt) (.ref r) pv av (.int ln nt) (.int 0 bt)) 6) :: (r, W.listOf rs.toArray re) :: (m.x, instObj 335 m.d) :: (m.d, dictOf (attrs w m lc lct mc mct st ex) 8) :: (m.t, W.listOf ts.toArray te) :: (m.lv, lo) ::
      (m.dr, W.listOf (ds ++ ds2 ++ [Value.ref x']).toArray de) :: (m.lf, W.listOf ls.toArray le) :: nd))
    (hE : S = ⟨T, Ls, mc, Ds ++ [⟨x, right, po, act, ln, 0⟩], rt0, ac0⟩) (hT : StrsAre ts T) (hL : StrsAre ls Ls) (hR : StrsAre rs right) (hp : OptS pv po) (ha : OptS av act) (hD : All2 (DraftOn w (inl nd)) ds2 Ds)
    (ne : AllNe [m.x, m.d, m.t, m.lv, m.dr, m.lf] ((x', instObj 224 d') :: (d', dictOf (dattrs w k1 k2 k3 k4 k5 k6 (.str x lt) (.ref r) pv av (.int ln nt) (.int 0 bt)) 6) :: (r, W.listOf rs.toArray re) :: nd)) :
    ∃ n, Nw fp h h' n ∧ RulePost w m lc lct st ex lo ds S .none n := rule_endA (nw.sub rotB) hE hT hL hR hp ha hD ne
theorem ne_nat {a b : Addr} (h : a ≠ b) : @Ne Nat a b := h
theorem News.subl {g h : Heap} {L : Addr} {l l' : List (Addr × Obj)} (N : News g L h l) (s : ∀ p ∈ l', p ∈ l) : News g L h l' := fun p hp => N p (s p hp)
section
variable {w : World} {loose : List Str} {mean : ExcName → Option Value} {mg mb : Str → Option Value} {base : Heap}
theorem enterPd {frs : List Env} {dp un : Nat} {gd : Option (List Code)} {s : Shared} {R : Result → Shared → Prop}
    {name qual : Str} {params : Arguments} {body : List Stmt} {scope : Scope} {dV kV doc pm cdv ct oc : Value} {an od : Option Addr} {osl : Array (Option Value)} {f : Addr} {args : List Value} {rs : List (Str × Value)}
    (G : Gd w loose mean mg mb base s.heap frs) (fpo : List (Addr × Obj)) (hfp : FP base s.heap fpo) (hap : Off frs fpo)
    (ho : (frag.heap_1 w.params).lookup f = some ⟨oc, od, .func (fnOf name qual params body scope dV kV doc pm an cdv ct), osl⟩) (hcd : codeIn (frag.heap_1 w.params) cdv qual = true) (hroom : dp < recursionLimit)
    (hbind : BindsTo s (fnOf name qual params body scope dV kV doc pm an cdv ct) ⟨args, []⟩ ((params.args.map (·.arg)).zip args)) (hr : ((params.args.map (·.arg)).zip args).reverse = rs) (hloc : ∀ y ∈ (params.args.map (·.arg)).zip args, scope.names.lookup y.1 = some .local)
    (h : ∀ g L' h₁ tk, (∀ b o, s.heap.get? b = some o → b ∉ adr fpo → g.get? b = some o) → Fr g L' h₁ (fun y => rs.lookup y) → News g L' h₁ fpo → Below (Ar dp un gd frs) base frs g → (frag.heap_1 w.params).In g → Top view loose mean mg mb g →
      wpAny (model prg w) ((Ar dp un gd frs).deeper (envOf qual scope L' f cdv)) (execs body (envOf qual scope L' f cdv))
        (fun fl s' => LeaveC s.heap g (adr fpo) R (match fl with | .ret v => v | _ => .none) s')
        (fun e s' => wpAny (model prg w) ((Ar dp un gd frs).deeper (envOf qual scope L' f cdv)) (leaving (envOf qual scope L' f cdv) e) (fun _ s'' => R (.error e) s'') (fun e' s'' => R (.error e') s'') s')
        { s with heap := h₁, toks := tk })
    (hco : scope.isCoroutine = false) (hgen : scope.isGenerator = false) (hk : scope.kind = .function)
    (hcell : ∀ x ∈ scope.names, x.2 ≠ .cell) : codeAny (model prg w) (Ar dp un gd frs) (.call (.ref f) ⟨args, []⟩) R s :=
  enter G fpo hfp hap ho hcd hroom hbind hloc (fun g L' h₁ a b c d e f => h g L' h₁ _ a (hr ▸ b) c d e f) hco hgen hk hcell

end
theorem first_adr {g h : Heap} {L a : Addr} {o : Obj} {l : List (Addr × Obj)} (_N : News g L h ((a, o) :: l)) : ∃ b, b = a := ⟨a, rfl⟩
theorem mapE3 {α : Type} {a b c : Str} {f g : Str → α} (h : ∀ y, y ≠ a → y ≠ b → y ≠ c → f y = g y) : f = fun y => if y = a then f a else if y = b then f b else if y = c then f c else g y := by
  funext y
  by_cases h1 : y = a
  · rw [if_pos h1, h1]
  · by_cases h2 : y = b
    · rw [if_neg h1, if_pos h2, h2]
    · by_cases h3 : y = c
      · rw [if_neg h1, if_neg h2, if_pos h3, h3]
      · rw [if_neg h1, if_neg h2, if_neg h3, h y h1 h2 h3]
theorem allLt_app {d : Nat} : ∀ {a b : List (Addr × Obj)}, AllLt d (a ++ b) ↔ AllLt d a ∧ AllLt d b
  | [], b => ⟨fun h => ⟨True.intro, h⟩, fun h => h.2⟩
  | p :: r, b => ⟨fun h => ⟨⟨h.1, (allLt_app.mp h.2).1⟩, (allLt_app.mp h.2).2⟩, fun h => ⟨h.1.1, allLt_app.mpr ⟨h.1.2, h.2⟩⟩⟩
section
variable {w : World} {loose : List Str} {mean : ExcName → Option Value} {mg mb : Str → Option Value} {base : Heap}
variable {A A₀ : Around} {env : Env} {frs : List Env} {g : Heap} {L : Addr} {mm : Str → Option Value} {news rest : List (Addr × Obj)} {Q E : Value → Shared → Prop} {dp un : Nat} {gd : Option (List Code)} {hp : Heap} {gn : Array GenState} {dr : Drawn} {tk : Nat} {os : OsState}
variable {m : MA} {lc : Int} {lct : Tok} {mc : Int} {mct : Tok} {st ex : Value} {ts : List Value} {te : Nat} {lo : Obj} {ds : List Value} {de : Nat} {ls : List Value} {le : Nat} {ss zs : List Str} {x : Str} {t : Tok}
/-- new objects stand apart from the ledger that was -/
theorem mid_use {t2 t3 : Tok} {ln b4 : Int} (o : m.Ok) (hs : StrsAre ls zs) (hl : ls.length < 1000) (hm0 : 0 ≤ mc) (hm : mc < 1000) (hdl : ds.length < 1000)
    (X : (frag.heap_1 w.params).In base) (T : Top view loose mean mg mb base) (B : Below A₀ base frs g) (F : Fr g L hp mm) (N : News g L hp news)
    (hA : A = Ar dp un gd (env :: frs)) (hL : env.frame = some L) (hke : env.scope.kind ≠ .module) (hd : dp + 3 < recursionLimit) (hu : un + 8 * 3 < cLine)
    (P : Pick (mled w m lc lct mc mct st ex ts te lo ds de ls le) news rest) (hne : AllNe [m.x, m.d, m.t, m.lv, m.dr, m.lf] rest)
    (ret : ∀ t' ls' le' mct' x' de' nd h' tk', let nw : List (Addr × Obj) := mledT w m lc lct (mc + 1) mct' st ex ts te lo (ds ++ [.ref x']) de' ls' le' (rest ++ nd); StrsAre ls' (addNew zs (mname mc)) → AllNe [m.x, m.d, m.t, m.lv, m.dr, m.lf] nd → DraftOn w (inl nd) (.ref x') ⟨mname mc, [], none, some x, ln, b4⟩ →
      (∀ q ∈ news, ∀ p ∈ nd, @Ne Nat p.1 q.1) → Fr g L h' mm → News g L h' nw → Q (.str (mname mc) t') ⟨h', gn, dr, tk', os⟩) :
    wpAny (model prg w) A (call (.ref 298) [.ref m.x, .str x t, .int ln t2, .int b4 t3]) Q E ⟨hp, gn, dr, tk, os⟩ :=
  useP (s := ⟨hp, gn, dr, tk, os⟩) (middle_ok o hs hl hm0 hm hdl) X T B F N hA hL hke hd hu P hne (fun v h' tk' news' F' N' hf' _ po => by
    obtain ⟨t', ls', le', mct', x', de', nd, rfl, rfl, hs', hn', hd'⟩ := po
    refine ret t' ls' le' mct' x' de' nd h' tk' hs' hn' hd' (fun q hq p hp' e => ?_) F' (fun p hp => N' p (perm3 (a := mled w m lc lct (mc + 1) mct' st ex ts te lo (ds ++ [.ref x']) de' ls' le') p hp))
    rcases hf' p (List.mem_append.mpr (.inr hp')) with z | z
    · exact hn'.all p hp' z
    · exact z q hq e.symm) fun f => f.elim
theorem draft_useL {r : Addr} {y : Str} {t1 t2 t3 : Tok} {n1 n2 : Int} {pv av : Value} {po ao : Option Str} (hpv : OptS pv po) (hav : OptS av ao)
    (X : (frag.heap_1 w.params).In base) (T : Top view loose mean mg mb base) (B : Below A₀ base frs g) (F : Fr g L hp mm) (N : News g L hp news) (X' : (frag.heap_1 w.params).In g)
    (hA : A = Ar dp un gd (env :: frs)) (hL : env.frame = some L) (hke : env.scope.kind ≠ .module) (hd : dp + 1 + 3 < recursionLimit) (hu : un + 1 + 8 * 3 < cLine)
    (ret : ∀ x dx k1 k2 k3 k4 k5 k6 h' tk', let nw1 : List (Addr × Obj) := (dx, dictOf (dattrs w k1 k2 k3 k4 k5 k6 (.str y t1) (.ref r) pv av (.int n1 t2) (.int n2 t3)) 6) :: news; let nw : List (Addr × Obj) := (x, instObj 224 dx) :: nw1;
      Fr g L h' mm → News g L h' nw → (∀ p ∈ news, p.1 < dx) → (∀ p ∈ nw1, p.1 < x) → Q (.ref x) ⟨h', gn, dr, tk', os⟩) :
    wpAny (model prg w) A (call (.ref 224) [.str y t1, .ref r, pv, av, .int n1 t2, .int n2 t3]) Q E ⟨hp, gn, dr, tk, os⟩ :=
  draft_use hpv hav X T B F N X' hA hL hke hd hu fun x dx k1 k2 k3 k4 k5 k6 h' tk' F' N' l1 l2 => ret x dx k1 k2 k3 k4 k5 k6 h' tk' F' N' l1 fun p hp => by
    rcases List.mem_cons.mp hp with rfl | hp
    · exact l2
    · exact Nat.lt_trans (l1 p hp) l2
end
/-- the names of rule's frame -/
noncomputable def rmap (x0 x1 x2 av : Option Value) (bm : Str → Option Value) : Str → Option Value := fun y => if y = Str.ofString "text" then x0 else if y = Str.ofString "kind" then x1 else if y = Str.ofString "at" then x2 else if y = Str.ofString "action" then av else bm y
theorem rmap_of {av : Option Value} {bm mm : Str → Option Value} (h : ∀ y, y ≠ Str.ofString "text" → y ≠ Str.ofString "kind" → y ≠ Str.ofString "at" → mm y = if y = Str.ofString "action" then av else bm y) : mm = rmap (mm (Str.ofString "text")) (mm (Str.ofString "kind")) (mm (Str.ofString "at")) av bm := by
  funext y
  unfold rmap
  by_cases h1 : y = Str.ofString "text"
  · rw [if_pos h1, h1]
  by_cases h2 : y = Str.ofString "kind"
  · rw [if_neg h1, if_pos h2, h2]
  by_cases h3 : y = Str.ofString "at"
  · rw [if_neg h1, if_neg h2, if_pos h3, h3]
  rw [if_neg h1, if_neg h2, if_neg h3, h y h1 h2 h3]
inductive RJ (w : World) (m : MA) (lc : Int) (lct : Tok) (st ex : Value) (lo : Obj) (ds : List Value) (r : Addr) (bm : Str → Option Value) (S : RS) (mm : Str → Option Value) (nx : List (Addr × Obj)) : Prop
  | mk {av : Value} {mct : Tok} {ts : List Value} {te : Nat} {ls : List Value} {le : Nat} {ds2 : List Value} {de : Nat} {nd : List (Addr × Obj)} {rs : List Value} {re : Nat} : StrsAre ts S.ts → StrsAre ls S.ls → StrsAre rs S.right → OptS av S.act → AllNe [m.x, m.d, m.t, m.lv, m.dr, m.lf] nd → (∀ p ∈ nd, p.1 ≠ r) → All2 (DraftOn w (inl nd)) ds2 S.ds →
    nx = (r, listOf rs.toArray re) :: mledT w m lc lct S.mc mct st ex ts te lo (ds ++ ds2) de ls le nd → (∀ y, y ≠ Str.ofString "text" → y ≠ Str.ofString "kind" → y ≠ Str.ofString "at" → mm y = if y = Str.ofString "action" then some av else bm y) → RJ w m lc lct st ex lo ds r bm S mm nx
section
variable {w : World} {m : MA} {lc : Int} {lct : Tok} {st ex : Value} {lo : Obj} {ds : List Value} {r : Addr} {bm mm : Str → Option Value} {nx : List (Addr × Obj)} {ps : List Part} {ln : Int} {ss zs : List Str} {mc : Int} {i : Nat} {g h : Heap} {L I : Addr} {oI : Obj}
theorem RJ.elim (H : RJ w m lc lct st ex lo ds r bm (partsRun ps ln ⟨ss, zs, mc, [], [], none⟩ i) mm nx) (F : Fr g L h mm) (N : News g L h ((I, oI) :: nx)) (hnx : ∀ q ∈ nx, q.1 ≠ I)
    (b1 : ss.length < 800) (b2 : zs.length < 850) (m0 : 0 ≤ mc) (m1 : mc < 800) (hi : i < 100) (hds : ds.length < 800) {P : Prop}
    (k : ∀ sts sls smc sds srt sact av mct ts te ls le ds2 de nd rs re x0 x1 x2, partsRun ps ln ⟨ss, zs, mc, [], [], none⟩ i = ⟨sts, sls, smc, sds, srt, sact⟩ →
      let mp := rmap x0 x1 x2 (some av) bm
      let nx' := (r, listOf (rs : List Value).toArray re) :: mledT w m lc lct smc mct st ex ts te lo (ds ++ ds2) de ls le nd
      let nw := (I, oI) :: nx'
      Fr g L h mp → News g L h nw → (∀ q ∈ nx', @Ne Nat q.1 I) → StrsAre ts sts → StrsAre ls sls → StrsAre rs srt → OptS av sact → AllNe [m.x, m.d, m.t, m.lv, m.dr, m.lf] nd → (∀ p ∈ nd, p.1 ≠ r) → All2 (DraftOn w (inl nd)) ds2 sds →
      ts.length < 1000 → ls.length < 1000 → (ds ++ ds2).length < 1000 → rs.length < 1000 → 0 ≤ smc → smc < 1000 → P) : P := by
  have sm : Grown _ _ _ := run_small ps ln ⟨ss, zs, mc, [], [], none⟩ i
  unfold Grown at sm
  generalize hS : partsRun ps ln ⟨ss, zs, mc, [], [], none⟩ i = S at *
  obtain ⟨sts, sls, smc, sds, srt, sact⟩ := S
  obtain ⟨hT, hL, hR, ha, hn, hr, hD, rfl, hm⟩ := H
  dsimp only at *
  rw [rmap_of hm] at F
  have e1 := hT.length
  have e2 := hL.length
  have e3 := hR.length
  have e4 := hD.len
  simp only [List.length_nil] at sm
  exact k _ _ _ _ _ _ _ _ _ _ _ _ _ _ _ _ _ _ _ _ rfl F N hnx hT hL hR ha hn hr hD (by omega) (by omega) (by rw [List.length_append]; omega) (by omega) (by omega) (by omega)
theorem RJ.elimD (H : RJ w m lc lct st ex lo ds r bm (partsRun ps ln ⟨ss, zs, mc, [], [], none⟩ i) mm nx) (F : Fr g L h mm) (N : News g L h nx)
    (b1 : ss.length < 800) (b2 : zs.length < 850) (m0 : 0 ≤ mc) (m1 : mc < 800) (hi : i < 100) (hds : ds.length < 800) {P : Prop}
    (k : ∀ sts sls smc sds srt sact av mct ts te ls le ds2 de nd rs re x0 x1 x2, partsRun ps ln ⟨ss, zs, mc, [], [], none⟩ i = ⟨sts, sls, smc, sds, srt, sact⟩ →
      let mp := rmap x0 x1 x2 (some av) bm
      let nw := (r, listOf (rs : List Value).toArray re) :: mledT w m lc lct smc mct st ex ts te lo (ds ++ ds2) de ls le nd
      Fr g L h mp → News g L h nw → StrsAre ts sts → StrsAre ls sls → StrsAre rs srt → OptS av sact → AllNe [m.x, m.d, m.t, m.lv, m.dr, m.lf] nd → (∀ p ∈ nd, p.1 ≠ r) → All2 (DraftOn w (inl nd)) ds2 sds →
      ts.length < 1000 → ls.length < 1000 → (ds ++ ds2).length < 1000 → rs.length < 1000 → 0 ≤ smc → smc < 1000 → P) : P := by
  have sm : Grown _ _ _ := run_small ps ln ⟨ss, zs, mc, [], [], none⟩ i
  unfold Grown at sm
  generalize hS : partsRun ps ln ⟨ss, zs, mc, [], [], none⟩ i = S at *
  obtain ⟨sts, sls, smc, sds, srt, sact⟩ := S
  obtain ⟨hT, hL, hR, ha, hn, hr, hD, rfl, hm⟩ := H
  dsimp only at *
  rw [rmap_of hm] at F
  have e1 := hT.length
  have e2 := hL.length
  have e3 := hR.length
  have e4 := hD.len
  simp only [List.length_nil] at sm
  exact k _ _ _ _ _ _ _ _ _ _ _ _ _ _ _ _ _ _ _ _ rfl F N hT hL hR ha hn hr hD (by omega) (by omega) (by rw [List.length_append]; omega) (by omega) (by omega) (by omega)
end
theorem part_at {g : Heap} {vs : List Value} {ps : List Part} {i : Nat} (hp : PartsOn (inh g) vs ps) (hi : i < vs.length) {x : Str} {po : Option Str} (hok : crOk x ps po = true) (hps : ∀ (i : Nat) (p : Part), ps[i]? = some p → p.1.length < 1000 ∧ p.2.length < 1000) {P : Prop}
    (k : ∀ a p1 p2 t1 t2, vs[i]? = some (.ref a) → ps[i]? = some (p1, p2) → g.IsTuple a #[.str p1 t1, .str p2 t2] → ((p1 == Str.ofString "sym") = true → kept p2 = false) → p1.length < 1000 → p2.length < 1000 → P) : P := by
  obtain ⟨v, hvi⟩ : ∃ v, vs[i]? = some v := ⟨vs[i], List.getElem?_eq_getElem hi⟩
  obtain ⟨p, hpi, a, t1, t2, rfl, hpa⟩ := hp.at i v hvi
  obtain ⟨p1, p2⟩ := p
  obtain ⟨hl1, hl2⟩ := hps i _ hpi
  exact k a p1 p2 t1 t2 hvi hpi ⟨_, hpa, rfl, _, rfl⟩ (fun q => ok_sym (ok_part hok hpi) q) hl1 hl2
theorem words_B13 : True := by
  k_with_none
  k_with "ktr_room" =>
    ((try simp only [depth_under_make, depth_under_kw, depth_in1, depth_deeper]); (try dsimp only [Ar]); omega)
  k_with "ktr_units" =>
    ((try simp only [units_in1, units_deeper, Around.mark_units]); (try dsimp only [Ar]); omega)
  k_with "ktr_enter" =>
    (
      intro frs dp un gd s R hs G hap hd hu ret err
      subst hs
      have X := G.X
      have T := G.T
      k_dflt (
        refine' enterP G _ ?k1 hap ?k3 ?k4 ?k5 ?k6 ?k8 ?k7 ?_ ?c2 ?c3 ?c4 ?c5
        (case k3 => k_is)
        (case k4 => k_is)
        (case k1 => assumption)
        (case k5 => omega)
        (case k6 => exact rfl)
        (case k8 => (refine' zr_of ?zra ?zrb; (case zra => (dsimp only [List.map_cons, List.map_nil]; try exact rfl)); (case zrb => first | exact zr1 | exact zr2 | exact zr3 | exact zr4 | exact zr5 | exact zr6 | exact zr7 | exact zr8)))
        (case k7 => exact locs rfl)
        (case c2 => exact rfl)
        (case c3 => exact rfl)
        (case c4 => exact rfl)
        (case c5 => decide)
        k_whole
        intro g' L' h' tk' gk' F' N' B' X' T'
        (try dsimp only [mled] at N')
        (try dsimp only)
        (try k_fold)))
  k_with "ktr_step" =>
    (
      intro frs dp un gd s R hs G hap hd hu ret err
      subst hs
      have X := G.X
      have T := G.T
      have Xs : (frag.heap_1 w.params).In s.heap := X.keeps G.st
      k_dflt (
        refine' enter G _ ?k1 hap ?k3 ?k4 ?k5 ?k6 ?k7 ?_ ?c2 ?c3 ?c4 ?c5
        (case k3 => k_is)
        (case k4 => k_is)
        (case k1 => assumption)
        (case k5 => omega)
        (case k6 => first | exact BindsTo.of_eq rfl | exact binds_K Xs rfl (by k_is) rfl rfl rfl)
        (case k7 => exact locs rfl)
        (case c2 => exact rfl)
        (case c3 => exact rfl)
        (case c4 => exact rfl)
        (case c5 => decide)
        k_whole
        intro g' L' h' gk' F' N' B' X' T'
        (try dsimp only [mled] at N')
        (try dsimp only)
        (try k_fold)))
  k_with "exec Raise some none" =>
    (k_dflt (refine' Raise_ge X T B' ?F X' T' ?d ?u ?a ?b ?c ?_; (case F => k_asm); (case d => ktr_room); (case u => ktr_units); (case a => exact rfl); (case b => exact rfl); (case c => exact rfl)))
  k_with "k_room" =>
    ktr_room
  k_with "call type:range" =>
    (k_dflt (refine' range1_rows ?F ?N ?_; (case F => k_asm); (case N => k_asm); intro h' tk' t1' u1' v1' R' F' N' kp'))
  k_with "exec For" =>
    (k_dflt (refine' For_own ?_ ?s; (case s => intro _; rfl)))
  k_with "ktr_rel" =>
    (
      (case F => k_asm)
      (case N => k_asm)
      (case A => exact rfl)
      (case L => exact rfl)
      (case K => intro h9; cases h9)
      (case d => ktr_room)
      (case u => ktr_units)
      (case e => intro h9; cases h9)
      intro h' tk' F' N'
      (try k_sweep))
  k_with "ktn_open" =>
    first | exact Rm.head | (apply Rm.tail; ktn_open)
  k_with "tb_start" =>
    first | exact Pick.nil | (refine' Pick.cons ?a ?b; (case a => ktn_open); (case b => tb_start))
  k_with "k_memK" =>
    first | exact ne0 | (refine ne1 ?x ?_; (case x => ((try dsimp only); omega)); k_memK)
  k_with "k_allIn" =>
    first | exact True.intro | (refine And.intro ?h ?_; (case h => k_memK); k_allIn)
  k_with "tb_rel" =>
    (
      (case F => k_asm)
      (case N => k_asm)
      (case A => exact rfl)
      (case L => exact rfl)
      (case K => intro h9; cases h9)
      (case d => ktr_room)
      (case u => ktr_units)
      (case e => intro h9; cases h9)
      (case P => tb_start)
      (case ne => k_allIn))
  k_with "compareOp In str ref" =>
    (k_dflt (refine' in_list_strs ?l ?i ?_; (case l => exact isL (by k_asm) (by k_mem)); (case i => assumption)))
  k_with "compareOp NotIn str ref" =>
    (k_dflt (refine' notin_list_strs ?l ?i ?_; (case l => exact isL (by k_asm) (by k_mem)); (case i => assumption)))
  k_with "call builtin:list.append" =>
    (k_dflt (refine' append_L ?k1 ?k2 ?k3 ?z ?_; (case k1 => k_asm); (case k2 => k_asm); (case k3 => k_upd); (case z => first | omega | (simp only [List.length_append, List.length_cons, List.length_nil]; omega)); k_whole); intro h' F' N'; (try k_sweep))
  k_with "call ref" =>
    (k_dflt (
      (first
      | (refine' use0 (is_kept ?a) X T B' ?F ?N ?A ?L ?K ?d ?u ?_ ?e; (case a => assumption))
      | (refine' use0 (is_literal ?a) X T B' ?F ?N ?A ?L ?K ?d ?u ?_ ?e; (case a => assumption))
      | (refine' use0 (check_name ?a ?b) X T B' ?F ?N ?A ?L ?K ?d ?u ?_ ?e; (case a => assumption); (case b => assumption)))
      ktr_rel))
  k_with "call ref" =>
    (k_dflt (
      (refine' useP (token_ok ?o ?s ?l ?x ?k) X T B' ?F ?N ?A ?L ?K ?d ?u ?P ?ne ?_ ?e)
      (case o => assumption)
      (case x => assumption)
      tb_rel
      (case s => assumption)
      (case l => first | assumption | omega)
      (case k => first | assumption | exact hkp (by assumption))
      intro v' h' tk' news' F' N' hf' kp' po'
      obtain ⟨rfl, ts', te', rfl, hs'⟩ := po'
      simp only [List.cons_append, List.nil_append] at N'
      (try k_sweep)))
  k_with "call ref" =>
    (k_dflt (
      (refine' useP (use_ok ?o ?s ?l ?x ?k) X T B' ?F ?N ?A ?L ?K ?d ?u ?P ?ne ?_ ?e)
      (case o => assumption)
      (case x => assumption)
      tb_rel
      (case s => assumption)
      (case l => first | assumption | omega)
      (case k => first | assumption | exact hkp (by assumption))
      intro v' h' tk' news' F' N' hf' kp' po'
      obtain ⟨rfl, ts', te', rfl, hs'⟩ := po'
      simp only [List.cons_append, List.nil_append] at N'
      (try k_sweep)))
  k_with "call ref" =>
    (k_dflt (
      (refine' useP (add_left_ok ?o ?s ?l) X T B' ?F ?N ?A ?L ?K ?d ?u ?P ?ne ?_ ?e)
      (case o => assumption)
      tb_rel
      (case s => assumption)
      (case l => first | assumption | omega)
      intro v' h' tk' news' F' N' hf' kp' po'
      obtain ⟨rfl, ls', le', rfl, hs'⟩ := po'
      simp only [List.cons_append, List.nil_append] at N'
      (try k_sweep)))
  k_with "boot_fact" =>
    first | exact (fun p hp => nomatch hp) | k_asm
  k_with "call ref" =>
    (k_dflt (
      (refine' useX (check_name_any ?a) X T B' ?F ?N ?A ?L ?K ?d ?u ?_ ?e)
      (case a => assumption)
      (case F => k_asm)
      (case N => k_asm)
      (case A => exact rfl)
      (case L => exact rfl)
      (case K => intro h9; cases h9)
      (case d => ktr_room)
      (case u => ktr_units)
      (case e => intro hx9 e9 h9 tk9 fl9; refine pass_out gk' (fun p hp => (fp p hp).1) (by k_asm) (by boot_fact) fl9 fun h2 f2 => err ?_ _ _ _ f2; nest_cls)
      intro h' tk' F' N' hx'
      (try k_sweep)))
  k_with "call ref" =>
    (k_dflt (
      (refine' useX (check_name_any ?a) X T B' ?F ?N ?A ?L ?K ?d ?u ?_ ?e)
      (case a => assumption)
      (case F => k_asm)
      (case N => k_asm)
      (case A => exact rfl)
      (case L => exact rfl)
      (case K => intro h9; cases h9)
      (case d => ktr_room)
      (case u => ktr_units)
      (case e => intro hx9 e9 h9 tk9 fl9; exact pass_out gk' (fun p hp => (fp p hp).1) (by k_asm) (by k_asm) fl9 fun h2 f2 => err trivial _ _ _ f2)
      intro h' tk' F' N' hx'
      (try (rw [hk] at hx'; cases hx'))
      (try k_sweep)))
  k_with "k_ne" =>
    (refine neN ?_; (try dsimp only); first | with_reducible exact Nat.ne_of_lt (by with_reducible assumption) | with_reducible exact Nat.ne_of_gt (by with_reducible assumption) | with_reducible assumption | with_reducible exact Ne.symm (by with_reducible assumption) | omega)
  k_with "k_memK" =>
    first | exact ne0 | (refine ne1 ?kmx ?_; (case kmx => k_ne); k_memK)
  k_with "ktr_room" =>
    ((try simp only [depth_under_make, depth_under_kw, depth_in1, depth_deeper]); (try dsimp only [Ar]); first | exact room1 (by with_reducible assumption) (by decide) | exact room2 (by with_reducible assumption) (by decide) | omega)
  k_with "ktr_units" =>
    ((try simp only [units_in1, units_deeper, Around.mark_units]); (try dsimp only [Ar]); first | exact units1 (by with_reducible assumption) (by decide) | exact units2 (by with_reducible assumption) (by decide) | exact units3 (by with_reducible assumption) (by decide) | omega)
  k_with "kat_tups" =>
    first | with_reducible_and_instances exact List.Mem.head _ | (refine List.Mem.tail _ ?_; kat_tups) | (refine List.mem_append.mpr (Or.inl ?_); kat_tups) | (refine List.mem_append.mpr (Or.inr ?_); kat_tups) | with_reducible assumption | with_reducible_and_instances exact hq | ((with_reducible show List.Mem _ _); with_reducible_and_instances assumption)
  k_with "top_args" =>
    first | exact List.forall_mem_nil _ | (refine List.forall_mem_cons.mpr (And.intro ?_ ?_); kat_tups; top_args) | (refine List.forall_mem_append.mpr (And.intro ?_ ?_); top_args; top_args) | (intro q hq; kat_tups)
  k_with "mem_news" =>
    first | ((with_reducible_and_instances (repeat (first | exact List.Mem.head _ | refine List.Mem.tail _ ?_))); done) | ((with_reducible show _ ∈ _); kat_tups) | ((try dsimp only [penL, booksL, mled, List.cons_append, List.nil_append]); top_args)
  k_with "ltD" =>
    first | with_reducible assumption | exact lt_l1 (by with_reducible assumption) (by kat_tups) | omega
  k_with "k_ne" =>
    (refine neN ?_; (try dsimp only); first | with_reducible assumption | with_reducible exact Ne.symm (by with_reducible assumption) | with_reducible exact Nat.ne_of_lt (by with_reducible assumption) | with_reducible exact Nat.ne_of_gt (by with_reducible assumption) | exact ne_l1 (by with_reducible assumption) (by kat_tups) | exact Ne.symm (ne_l1 (by with_reducible assumption) (by kat_tups)) | exact ne_l1s (by with_reducible assumption) (by kat_tups) | exact Ne.symm (ne_l1s (by with_reducible assumption) (by kat_tups)) | exact ne_lt2 (by with_reducible assumption) (by with_reducible assumption) (by kat_tups) | exact Ne.symm (ne_lt2 (by with_reducible assumption) (by with_reducible assumption) (by kat_tups)) | exact Anew.ne (by with_reducible assumption) (by kat_tups) | exact Ne.symm (Anew.ne (by with_reducible assumption) (by kat_tups)) | omega)
  k_with "k_all" =>
    first | exact List.forall_mem_nil _ | with_reducible assumption | exact tail_l1 (by with_reducible assumption) (by intro q hq; kat_tups) | (refine' List.forall_mem_cons.mpr ⟨?kaa, ?kab⟩; (case kaa => k_ne); (case kab => k_all))
  k_with "k_allIn" =>
    first | exact True.intro | with_reducible assumption | ((with_reducible refine AllNe.app ?_ ?_) <;> k_allIn) | (refine And.intro ?kah ?_; (case kah => k_memK); k_allIn)
  k_with "useC" =>
    (
      (case F => k_asm)
      (case N => k_asm)
      (case A => exact rfl)
      (case L => exact rfl)
      (case K => intro h9; cases h9)
      (case d => ktr_room)
      (case u => ktr_units)
      (case P => tb_start)
      (case ne => k_allIn))
  k_with "dipC" =>
    (
      (case ta => with_reducible assumption)
      (case tb => assumption)
      (case tc => assumption)
      k_extra "useC"
      (case tg => first | with_reducible assumption | omega)
      (case th => first | exact PB.lt6 (by with_reducible assumption) (by with_reducible assumption) (by decide) | exact PB.lt (by with_reducible assumption) (by with_reducible assumption) (by decide) | omega)
      (case ti => first | with_reducible assumption | omega))
  k_with "pbStep" =>
    (have hPB := PB.step (by with_reducible assumption) hp1)
  k_with "eval Tuple" =>
    (k_fold; walk_at "eval Tuple")
  k_with "eval List" =>
    (k_fold; walk_at "eval List")
  k_with "eval BinOp" =>
    (k_fold; walk_at "eval BinOp")
  k_with "eval Call" =>
    (k_fold; walk_at "eval Call")
  k_with "eval Subscript" =>
    (k_fold; walk_at "eval Subscript")
  k_with "execs cons" =>
    (k_fold; walk_at "execs cons")
  k_with "exec If" =>
    (k_fold; walk_at "exec If")
  k_with "exec Assign" =>
    (k_fold; walk_at "exec Assign")
  k_with "exec Return some" =>
    (k_fold; walk_at "exec Return some")
  k_with "exec Expr" =>
    (k_fold; walk_at "exec Expr")
  k_with "ltSkip" => skip
  trivial
section
variable {w : World} {loose : List Str} {mean : ExcName → Option Value} {mg mb : Str → Option Value} {base : Heap}
variable {h : Heap} {m : MA} {lc : Int} {lct : Tok} {mc : Int} {mct : Tok} {st ex : Value} {ts : List Value} {te : Nat} {lo : Obj} {ds : List Value} {de : Nat} {ls : List Value} {le : Nat} {ss zs : List Str}
theorem token_bad {x : Str} {t : Tok} (o : m.Ok) (hx : x.length < 1000) (hk : kept x = true) :
    FP base h (mled w m lc lct mc mct st ex ts te lo ds de ls le) → Spec w loose mean mg mb base 256 [.ref m.x, .str x t] 6 h (mled w m lc lct mc mct st ex ts te lo ds de ls le)
      (fun v n => False) True := by
  obtain ⟨a1, a2, a3, a4, a5⟩ := o
  intro fp
  ktr_enter
  k_steps
theorem set_expect_bad {x y : Int} {t t' : Tok} (o : m.Ok) :
    FP base h (mled w m lc lct mc mct st (.int y t') ts te lo ds de ls le) → Spec w loose mean mg mb base 277 [.ref m.x, .int x t] 6 h (mled w m lc lct mc mct st (.int y t') ts te lo ds de ls le)
      (fun v n => False) True := by
  obtain ⟨a1, a2, a3, a4, a5⟩ := o
  intro fp
  ktr_enter
  k_steps
  all_goals refine geEnd (by k_asm) fun h' e t₀ dd tk' kp he0 he => raise_out gk' (fun p hp => (fp p hp).1) B' (by k_asm) (by k_asm) kp he0 he rfl fun h2 fl => err trivial e h2 tk' fl
theorem set_start_bad {x y : Str} {t t' : Tok} (o : m.Ok) :
    FP base h (mled w m lc lct mc mct (.str y t') ex ts te lo ds de ls le) → Spec w loose mean mg mb base 270 [.ref m.x, .str x t] 6 h (mled w m lc lct mc mct (.str y t') ex ts te lo ds de ls le)
      (fun v n => False) True := by
  obtain ⟨a1, a2, a3, a4, a5⟩ := o
  intro fp
  ktr_enter
  k_steps
  all_goals refine geEnd (by k_asm) fun h' e t₀ dd tk' kp he0 he => raise_out gk' (fun p hp => (fp p hp).1) B' (by k_asm) (by k_asm) kp he0 he rfl fun h2 fl => err trivial e h2 tk' fl
theorem set_start_bad2 {x : Str} {t : Tok} (o : m.Ok) (hx : x.length < 1000) (hk : kept x = true) :
    FP base h (mled w m lc lct mc mct .none ex ts te lo ds de ls le) → Spec w loose mean mg mb base 270 [.ref m.x, .str x t] 6 h (mled w m lc lct mc mct .none ex ts te lo ds de ls le)
      (fun v n => False) True := by
  obtain ⟨a1, a2, a3, a4, a5⟩ := o
  intro fp
  ktr_enter
  k_steps
end
theorem words_B14 : True := by
  k_with_none
  k_with "ktr_room" =>
    ((try simp only [depth_under_make, depth_under_kw, depth_in1, depth_deeper]); (try dsimp only [Ar]); omega)
  k_with "ktr_units" =>
    ((try simp only [units_in1, units_deeper, Around.mark_units]); (try dsimp only [Ar]); omega)
  k_with "ktr_enter" =>
    (
      intro frs dp un gd s R hs G hap hd hu ret err
      subst hs
      have X := G.X
      have T := G.T
      k_dflt (
        refine' enterP G _ ?k1 hap ?k3 ?k4 ?k5 ?k6 ?k8 ?k7 ?_ ?c2 ?c3 ?c4 ?c5
        (case k3 => k_is)
        (case k4 => k_is)
        (case k1 => assumption)
        (case k5 => omega)
        (case k6 => exact rfl)
        (case k8 => (refine' zr_of ?zra ?zrb; (case zra => (dsimp only [List.map_cons, List.map_nil]; try exact rfl)); (case zrb => first | exact zr1 | exact zr2 | exact zr3 | exact zr4 | exact zr5 | exact zr6 | exact zr7 | exact zr8)))
        (case k7 => exact locs rfl)
        (case c2 => exact rfl)
        (case c3 => exact rfl)
        (case c4 => exact rfl)
        (case c5 => decide)
        k_whole
        intro g' L' h' tk' gk' F' N' B' X' T'
        (try dsimp only [mled] at N')
        (try dsimp only)
        (try k_fold)))
  k_with "ktr_step" =>
    (
      intro frs dp un gd s R hs G hap hd hu ret err
      subst hs
      have X := G.X
      have T := G.T
      have Xs : (frag.heap_1 w.params).In s.heap := X.keeps G.st
      k_dflt (
        refine' enter G _ ?k1 hap ?k3 ?k4 ?k5 ?k6 ?k7 ?_ ?c2 ?c3 ?c4 ?c5
        (case k3 => k_is)
        (case k4 => k_is)
        (case k1 => assumption)
        (case k5 => omega)
        (case k6 => first | exact BindsTo.of_eq rfl | exact binds_K Xs rfl (by k_is) rfl rfl rfl)
        (case k7 => exact locs rfl)
        (case c2 => exact rfl)
        (case c3 => exact rfl)
        (case c4 => exact rfl)
        (case c5 => decide)
        k_whole
        intro g' L' h' gk' F' N' B' X' T'
        (try dsimp only [mled] at N')
        (try dsimp only)
        (try k_fold)))
  k_with "exec Raise some none" =>
    (k_dflt (refine' Raise_ge X T B' ?F X' T' ?d ?u ?a ?b ?c ?_; (case F => k_asm); (case d => ktr_room); (case u => ktr_units); (case a => exact rfl); (case b => exact rfl); (case c => exact rfl)))
  k_with "k_room" =>
    ktr_room
  k_with "call type:range" =>
    (k_dflt (refine' range1_rows ?F ?N ?_; (case F => k_asm); (case N => k_asm); intro h' tk' t1' u1' v1' R' F' N' kp'))
  k_with "exec For" =>
    (k_dflt (refine' For_own ?_ ?s; (case s => intro _; rfl)))
  k_with "ktr_rel" =>
    (
      (case F => k_asm)
      (case N => k_asm)
      (case A => exact rfl)
      (case L => exact rfl)
      (case K => intro h9; cases h9)
      (case d => ktr_room)
      (case u => ktr_units)
      (case e => intro h9; cases h9)
      intro h' tk' F' N'
      (try k_sweep))
  k_with "ktn_open" =>
    first | exact Rm.head | (apply Rm.tail; ktn_open)
  k_with "tb_start" =>
    first | exact Pick.nil | (refine' Pick.cons ?a ?b; (case a => ktn_open); (case b => tb_start))
  k_with "k_memK" =>
    first | exact ne0 | (refine ne1 ?x ?_; (case x => ((try dsimp only); omega)); k_memK)
  k_with "k_allIn" =>
    first | exact True.intro | (refine And.intro ?h ?_; (case h => k_memK); k_allIn)
  k_with "tb_rel" =>
    (
      (case F => k_asm)
      (case N => k_asm)
      (case A => exact rfl)
      (case L => exact rfl)
      (case K => intro h9; cases h9)
      (case d => ktr_room)
      (case u => ktr_units)
      (case e => intro h9; cases h9)
      (case P => tb_start)
      (case ne => k_allIn))
  k_with "compareOp In str ref" =>
    (k_dflt (refine' in_list_strs ?l ?i ?_; (case l => exact isL (by k_asm) (by k_mem)); (case i => assumption)))
  k_with "compareOp NotIn str ref" =>
    (k_dflt (refine' notin_list_strs ?l ?i ?_; (case l => exact isL (by k_asm) (by k_mem)); (case i => assumption)))
  k_with "call builtin:list.append" =>
    (k_dflt (refine' append_L ?k1 ?k2 ?k3 ?z ?_; (case k1 => k_asm); (case k2 => k_asm); (case k3 => k_upd); (case z => first | omega | (simp only [List.length_append, List.length_cons, List.length_nil]; omega)); k_whole); intro h' F' N'; (try k_sweep))
  k_with "call ref" =>
    (k_dflt (
      (first
      | (refine' use0 (is_kept ?a) X T B' ?F ?N ?A ?L ?K ?d ?u ?_ ?e; (case a => assumption))
      | (refine' use0 (is_literal ?a) X T B' ?F ?N ?A ?L ?K ?d ?u ?_ ?e; (case a => assumption))
      | (refine' use0 (check_name ?a ?b) X T B' ?F ?N ?A ?L ?K ?d ?u ?_ ?e; (case a => assumption); (case b => assumption)))
      ktr_rel))
  k_with "call ref" =>
    (k_dflt (
      (refine' useP (token_ok ?o ?s ?l ?x ?k) X T B' ?F ?N ?A ?L ?K ?d ?u ?P ?ne ?_ ?e)
      (case o => assumption)
      (case x => assumption)
      tb_rel
      (case s => assumption)
      (case l => first | assumption | omega)
      (case k => first | assumption | exact hkp (by assumption))
      intro v' h' tk' news' F' N' hf' kp' po'
      obtain ⟨rfl, ts', te', rfl, hs'⟩ := po'
      simp only [List.cons_append, List.nil_append] at N'
      (try k_sweep)))
  k_with "call ref" =>
    (k_dflt (
      (refine' useP (use_ok ?o ?s ?l ?x ?k) X T B' ?F ?N ?A ?L ?K ?d ?u ?P ?ne ?_ ?e)
      (case o => assumption)
      (case x => assumption)
      tb_rel
      (case s => assumption)
      (case l => first | assumption | omega)
      (case k => first | assumption | exact hkp (by assumption))
      intro v' h' tk' news' F' N' hf' kp' po'
      obtain ⟨rfl, ts', te', rfl, hs'⟩ := po'
      simp only [List.cons_append, List.nil_append] at N'
      (try k_sweep)))
  k_with "call ref" =>
    (k_dflt (
      (refine' useP (add_left_ok ?o ?s ?l) X T B' ?F ?N ?A ?L ?K ?d ?u ?P ?ne ?_ ?e)
      (case o => assumption)
      tb_rel
      (case s => assumption)
      (case l => first | assumption | omega)
      intro v' h' tk' news' F' N' hf' kp' po'
      obtain ⟨rfl, ls', le', rfl, hs'⟩ := po'
      simp only [List.cons_append, List.nil_append] at N'
      (try k_sweep)))
  k_with "boot_fact" =>
    first | exact (fun p hp => nomatch hp) | k_asm
  k_with "call ref" =>
    (k_dflt (
      (refine' useX (check_name_any ?a) X T B' ?F ?N ?A ?L ?K ?d ?u ?_ ?e)
      (case a => assumption)
      (case F => k_asm)
      (case N => k_asm)
      (case A => exact rfl)
      (case L => exact rfl)
      (case K => intro h9; cases h9)
      (case d => ktr_room)
      (case u => ktr_units)
      (case e => intro hx9 e9 h9 tk9 fl9; refine pass_out gk' (fun p hp => (fp p hp).1) (by k_asm) (by boot_fact) fl9 fun h2 f2 => err ?_ _ _ _ f2; nest_cls)
      intro h' tk' F' N' hx'
      (try k_sweep)))
  k_with "kas_types" =>
    exact map4 (a := Str.ofString "text") (b := Str.ofString "kind") (c := Str.ofString "at") (d := Str.ofString "action") rfl rfl rfl rfl (fun y h1 h2 h3 h4 => by simp only [if_neg h1, if_neg h2, if_neg h3, if_neg h4])
  k_with "krn_off" =>
    (
      intro frs dp un gd s R hs G hap hd hu ret err
      subst hs
      have X := G.X
      have T := G.T
      have Xs : (frag.heap_1 w.params).In s.heap := X.keeps G.st
      k_dflt (
        refine' enterPd G _ ?k1 hap ?k3 ?k4 ?k5 ?k6 ?k8 ?k7 ?_ ?c2 ?c3 ?c4 ?c5
        (case k3 => k_is)
        (case k4 => k_is)
        (case k1 => assumption)
        (case k5 => omega)
        (case k6 => exact binds_K Xs rfl (by k_is) rfl rfl rfl)
        (case k8 => (refine' zr_of ?zra ?zrb; (case zra => (dsimp only [List.map_cons, List.map_nil]; try exact rfl)); (case zrb => first | exact zr1 | exact zr2 | exact zr3 | exact zr4 | exact zr5 | exact zr6 | exact zr7 | exact zr8)))
        (case k7 => exact locs rfl)
        (case c2 => exact rfl)
        (case c3 => exact rfl)
        (case c4 => exact rfl)
        (case c5 => decide)
        k_whole
        intro g' L' h' tk' gk' F' N' B' X' T'
        (try dsimp only [mled] at N')
        (try dsimp only)
        (try k_fold)))
  k_with "k_all" =>
    first | exact List.forall_mem_nil _ | with_reducible assumption | exact allLt_ne (by with_reducible assumption) | (refine' List.forall_mem_cons.mpr ⟨?a, ?b⟩; (case a => k_ne); (case b => k_all))
  k_with "k_allIn" =>
    first | exact True.intro | exact hAN | (refine And.intro ?h ?_; (case h => k_memK); k_allIn)
  k_with "call ref" =>
    (k_dflt (
      (refine' useP (middle_ok ?o ?s ?l ?m0 ?m1 ?dl) X T B' ?F ?N ?A ?L ?K ?d ?u ?P ?ne ?_ ?e)
      (case o => assumption)
      tb_rel
      (case s => assumption)
      (case l => first | assumption | omega)
      (case m0 => first | assumption | omega)
      (case m1 => first | assumption | omega)
      (case dl => first | assumption | omega)
      intro v' h' tk' news' F' N' hf' kp' po'
      obtain ⟨t', ls', le', mct', x', de', nd', rfl, rfl, hs', hn', hd'⟩ := po'
      simp only [List.cons_append, List.nil_append] at N'
      (try replace N' := News.rot N')
      (try have hNr' := tail_ne hNr hn' hf' (.tail _ (.head _)))
      (try k_sweep)))
  k_with "call ref" =>
    (k_dflt (
      (refine' useX (check_rule_any ?a ?b ?c ?v ?ps ?po) X T B' ?F ?N ?A ?L ?K ?d ?u ?_ ?e)
      (case a => assumption)
      (case v => assumption)
      (case F => k_asm)
      (case N => k_asm)
      (case A => exact rfl)
      (case L => exact rfl)
      (case K => intro h9; cases h9)
      (case d => ktr_room)
      (case u => ktr_units)
      (case ps => assumption)
      (case po => assumption)
      (case b => exact IsList_Fr (by k_asm) (by assumption))
      (case c => exact PartsOn_Fr (by k_asm) (by assumption))
      (case e => intro hx9 e9 h9 tk9 fl9; first | (rw [hok] at hx9; cases hx9) | (refine pass_out gk' (fun p hp => (fp p hp).1) (by k_asm) (by boot_fact) fl9 fun h2 f2 => err ?_ _ _ _ f2; nest_cls))
      intro h' tk' F' N' hx'
      (try k_sweep)))
  k_with "call builtin:len" =>
    ((with_reducible show wpAny _ _ (call (Value.builtin "len") [Value.ref _]) _ _ _); k_dflt (refine' len_L ?l ?z ?_; (case l => first | exact IsList_Fr (by k_asm) (by with_reducible assumption) | exact isL (by k_asm) (by with_reducible k_mem)); (case z => first | omega | (simp only [List.length_append, List.length_cons, List.length_nil]; omega)); k_whole))
  k_with "subscriptTail Name Name ref int" =>
    (k_dflt (refine' item_B ?l ?i ?z ?_; (case l => exact IsList_Fr (by k_asm) (by assumption)); (case i => assumption); (case z => omega); k_whole))
  k_with "exec For Name Call cons nil" =>
    (k_dflt (refine' For_own ?_ ?s; (case s => intro _; rfl)))
  k_with "assign Tuple" =>
    (k_here; (with_reducible show wpAny _ _ (assign (Expr.Tuple _ _ _) _ (Value.ref _)) _ _ _); k_dflt (refine' unpackN_ ?F ?N ?T ?k1 ?k2 ?k3 ?_; (case F => k_asm); (case N => k_asm); (case T => exact IsTup_Fr (by k_asm) (by with_reducible assumption)); (case k1 => exact rfl); (case k2 => exact rfl); (case k3 => exact rfl)); intro h' F' N'; (try k_sweep))
  k_with "call ref" =>
    (k_dflt (
      (refine' useX (check_rule_any ?a ?b ?c ?v ?ps ?po) X T B' ?F ?N ?A ?L ?K ?d ?u ?_ ?e)
      (case a => assumption)
      (case v => assumption)
      (case F => k_asm)
      (case N => k_asm)
      (case A => exact rfl)
      (case L => exact rfl)
      (case K => intro h9; cases h9)
      (case d => ktr_room)
      (case u => ktr_units)
      (case ps => assumption)
      (case po => assumption)
      (case b => exact IsList_Fr (by k_asm) (by assumption))
      (case c => exact PartsOn_Fr (by k_asm) (by assumption))
      (case e => intro hx9 e9 h9 tk9 fl9; exact pass_out gk' (fun p hp => (fp p hp).1) (by k_asm) (by k_asm) fl9 fun h2 f2 => err trivial _ _ _ f2)
      intro h' tk' F' N' hx'
      (try (rw [hok] at hx'; cases hx'))
      (try k_sweep)))
  k_with "k_ne" =>
    (refine neN ?_; (try dsimp only); first | with_reducible exact Nat.ne_of_lt (by with_reducible assumption) | with_reducible exact Nat.ne_of_gt (by with_reducible assumption) | with_reducible assumption | with_reducible exact Ne.symm (by with_reducible assumption) | omega)
  k_with "k_memK" =>
    first | exact ne0 | (refine ne1 ?kmx ?_; (case kmx => k_ne); k_memK)
  k_with "ktr_room" =>
    ((try simp only [depth_under_make, depth_under_kw, depth_in1, depth_deeper]); (try dsimp only [Ar]); first | exact room1 (by with_reducible assumption) (by decide) | exact room2 (by with_reducible assumption) (by decide) | omega)
  k_with "ktr_units" =>
    ((try simp only [units_in1, units_deeper, Around.mark_units]); (try dsimp only [Ar]); first | exact units1 (by with_reducible assumption) (by decide) | exact units2 (by with_reducible assumption) (by decide) | exact units3 (by with_reducible assumption) (by decide) | omega)
  k_with "kat_tups" =>
    first | with_reducible_and_instances exact List.Mem.head _ | (refine List.Mem.tail _ ?_; kat_tups) | (refine List.mem_append.mpr (Or.inl ?_); kat_tups) | (refine List.mem_append.mpr (Or.inr ?_); kat_tups) | with_reducible assumption | with_reducible_and_instances exact hq | ((with_reducible show List.Mem _ _); with_reducible_and_instances assumption)
  k_with "top_args" =>
    first | exact List.forall_mem_nil _ | (refine List.forall_mem_cons.mpr (And.intro ?_ ?_); kat_tups; top_args) | (refine List.forall_mem_append.mpr (And.intro ?_ ?_); top_args; top_args) | (intro q hq; kat_tups)
  k_with "mem_news" =>
    first | ((with_reducible_and_instances (repeat (first | exact List.Mem.head _ | refine List.Mem.tail _ ?_))); done) | ((with_reducible show _ ∈ _); kat_tups) | ((try dsimp only [penL, booksL, mled, List.cons_append, List.nil_append]); top_args)
  k_with "ltD" =>
    first | with_reducible assumption | exact lt_l1 (by with_reducible assumption) (by kat_tups) | omega
  k_with "k_ne" =>
    (refine neN ?_; (try dsimp only); first | with_reducible assumption | with_reducible exact Ne.symm (by with_reducible assumption) | with_reducible exact Nat.ne_of_lt (by with_reducible assumption) | with_reducible exact Nat.ne_of_gt (by with_reducible assumption) | exact ne_l1 (by with_reducible assumption) (by kat_tups) | exact Ne.symm (ne_l1 (by with_reducible assumption) (by kat_tups)) | exact ne_l1s (by with_reducible assumption) (by kat_tups) | exact Ne.symm (ne_l1s (by with_reducible assumption) (by kat_tups)) | exact ne_lt2 (by with_reducible assumption) (by with_reducible assumption) (by kat_tups) | exact Ne.symm (ne_lt2 (by with_reducible assumption) (by with_reducible assumption) (by kat_tups)) | exact Anew.ne (by with_reducible assumption) (by kat_tups) | exact Ne.symm (Anew.ne (by with_reducible assumption) (by kat_tups)) | omega)
  k_with "k_all" =>
    first | exact List.forall_mem_nil _ | with_reducible assumption | exact tail_l1 (by with_reducible assumption) (by intro q hq; kat_tups) | (refine' List.forall_mem_cons.mpr ⟨?kaa, ?kab⟩; (case kaa => k_ne); (case kab => k_all))
  k_with "k_allIn" =>
    first | exact True.intro | with_reducible assumption | ((with_reducible refine AllNe.app ?_ ?_) <;> k_allIn) | (refine And.intro ?kah ?_; (case kah => k_memK); k_allIn)
  k_with "useC" =>
    (
      (case F => k_asm)
      (case N => k_asm)
      (case A => exact rfl)
      (case L => exact rfl)
      (case K => intro h9; cases h9)
      (case d => ktr_room)
      (case u => ktr_units)
      (case P => tb_start)
      (case ne => k_allIn))
  k_with "dipC" =>
    (
      (case ta => with_reducible assumption)
      (case tb => assumption)
      (case tc => assumption)
      k_extra "useC"
      (case tg => first | with_reducible assumption | omega)
      (case th => first | exact PB.lt6 (by with_reducible assumption) (by with_reducible assumption) (by decide) | exact PB.lt (by with_reducible assumption) (by with_reducible assumption) (by decide) | omega)
      (case ti => first | with_reducible assumption | omega))
  k_with "pbStep" =>
    (have hPB := PB.step (by with_reducible assumption) hp1)
  k_with "eval Tuple" =>
    (k_fold; walk_at "eval Tuple")
  k_with "eval List" =>
    (k_fold; walk_at "eval List")
  k_with "eval BinOp" =>
    (k_fold; walk_at "eval BinOp")
  k_with "eval Call" =>
    (k_fold; walk_at "eval Call")
  k_with "eval Subscript" =>
    (k_fold; walk_at "eval Subscript")
  k_with "execs cons" =>
    (k_fold; walk_at "execs cons")
  k_with "exec If" =>
    (k_fold; walk_at "exec If")
  k_with "exec Assign" =>
    (k_fold; walk_at "exec Assign")
  k_with "exec Return some" =>
    (k_fold; walk_at "exec Return some")
  k_with "exec Expr" =>
    (k_fold; walk_at "exec Expr")
  k_with "ltSkip" => skip
  trivial
section
variable {w : World} {loose : List Str} {mean : ExcName → Option Value} {mg mb : Str → Option Value} {base : Heap}
variable {h : Heap} {m : MA} {lc : Int} {lct : Tok} {mc : Int} {mct : Tok} {st ex : Value} {ts : List Value} {te : Nat} {lo : Obj} {ds : List Value} {de : Nat} {ls : List Value} {le : Nat} {ss zs : List Str}
theorem rule_bad {x : Str} {t tl : Tok} {ln : Int} {l : Addr} {vs : List Value} {ps : List Part} {pv : Value} {po : Option Str} (o : m.Ok)
    (hx : x.length < 1000) (hlp : ∀ g : Heap, (∀ b o, h.get? b = some o → b ∉ [m.x, m.d, m.t, m.lv, m.dr, m.lf] → g.get? b = some o) → g.IsList l vs.toArray ∧ PartsOn (inh g) vs ps) (hv : OptS pv po) (hps : ∀ (i : Nat) (p : Part), ps[i]? = some p → p.1.length < 1000 ∧ p.2.length < 1000) (hpo : ∀ y, po = some y → y.length < 1000)
    (hok : crOk x ps po = false) :
    FP base h (mled w m lc lct mc mct st ex ts te lo ds de ls le) → Spec w loose mean mg mb base 306 [.ref m.x, .str x t, .ref l, pv, .int ln tl] 7 h (mled w m lc lct mc mct st ex ts te lo ds de ls le)
      (fun v n => False) True := by
  obtain ⟨a1, a2, a3, a4, a5⟩ := o
  intro fp
  krn_off
  obtain ⟨hl', hp'⟩ := hlp g' gk'
  clear hlp
  k_steps
end
section
variable {prog : Program} {w : World} {A : Around} {E : Value → Shared → Prop} {s : Shared} {h₀ : Heap} {L d : Addr} {m : Str → Option Value} {news : List (Addr × Obj)} {g : Obj → List (Addr × Obj)} {o : Obj}
theorem isStr {x : Str} {t : Tok} : (_root_.PySem.strKind prog w).is x (.str x t) = true := by simp [_root_.PySem.strKind, Value.isStrOf]
theorem setI_D {x : Str} {t : Tok} {v : Value} {kvs : List (Str × Value)} {Q : Unit → Shared → Prop} (F : Fr h₀ L s.heap m) (N : News h₀ L s.heap news) (U : UpdF d o news g) (hd : o.IsDictOf (_root_.PySem.strKind prog w) kvs) (hsz : kvs.length < 1000000)
    (h : ∀ h' o', Fr h₀ L h' m → News h₀ L h' (g o') → o'.IsDictOf (_root_.PySem.strKind prog w) (stored kvs x v) → Q () { s with heap := h', toks := s.toks + 1 }) : wpAny (model prog w) A (setItem (.ref d) (.str x t) v) Q E s := by
  obtain ⟨pre, post, rfl, hg, a, b⟩ := U.split
  have hm := N (d, o) (List.mem_append.mpr (.inr (.head _)))
  refine wpAny_setItem_pairs (k := x) isStr (Heap.dictOf_iff.mpr ⟨o, hm.1, hd⟩) (fun h' hD hs => ?_) (by rw [sizeLine_eq]; omega)
  obtain ⟨o', ho', hd'⟩ := Heap.dictOf_iff.mp hD
  have keep : ∀ b o, b ≠ d → s.heap.get? b = some o → h'.get? b = some o := fun b o hb e => (hs.2 b hb).trans e
  obtain ⟨oL, es, ep, hoL, r⟩ := F.ns
  refine h h' o' ⟨⟨oL, es, ep, keep _ _ (Ne.symm hm.2.1) hoL, r⟩, fun b o e => keep b o (fun q => by rw [q, hm.2.2] at e; cases e) (F.keep b o e), F.above⟩ (fun p hp => ?_) hd'
  rw [hg] at hp
  rcases List.mem_append.mp hp with hp | hp
  · exact ⟨keep _ _ (a p hp) (N p (List.mem_append.mpr (.inl hp))).1, (N p (List.mem_append.mpr (.inl hp))).2⟩
  · rcases List.mem_cons.mp hp with rfl | hp
    · exact ⟨ho', hm.2⟩
    · exact ⟨keep _ _ (b p hp) (N p (List.mem_append.mpr (.inr (.tail _ hp)))).1, (N p (List.mem_append.mpr (.inr (.tail _ hp)))).2⟩
end
theorem words_B12r : True := by
  k_with_none
  k_with "ktr_room" =>
    ((try simp only [depth_under_make, depth_under_kw, depth_in1, depth_deeper]); (try dsimp only [Ar]); omega)
  k_with "ktr_units" =>
    ((try simp only [units_in1, units_deeper, Around.mark_units]); (try dsimp only [Ar]); omega)
  k_with "ktr_enter" =>
    (
      intro frs dp un gd s R hs G hap hd hu ret err
      subst hs
      have X := G.X
      have T := G.T
      k_dflt (
        refine' enterP G _ ?k1 hap ?k3 ?k4 ?k5 ?k6 ?k8 ?k7 ?_ ?c2 ?c3 ?c4 ?c5
        (case k3 => k_is)
        (case k4 => k_is)
        (case k1 => assumption)
        (case k5 => omega)
        (case k6 => exact rfl)
        (case k8 => (refine' zr_of ?zra ?zrb; (case zra => (dsimp only [List.map_cons, List.map_nil]; try exact rfl)); (case zrb => first | exact zr1 | exact zr2 | exact zr3 | exact zr4 | exact zr5 | exact zr6 | exact zr7 | exact zr8)))
        (case k7 => exact locs rfl)
        (case c2 => exact rfl)
        (case c3 => exact rfl)
        (case c4 => exact rfl)
        (case c5 => decide)
        k_whole
        intro g' L' h' tk' gk' F' N' B' X' T'
        (try dsimp only [mled] at N')
        (try dsimp only)
        (try k_fold)))
  k_with "ktr_step" =>
    (
      intro frs dp un gd s R hs G hap hd hu ret err
      subst hs
      have X := G.X
      have T := G.T
      have Xs : (frag.heap_1 w.params).In s.heap := X.keeps G.st
      k_dflt (
        refine' enter G _ ?k1 hap ?k3 ?k4 ?k5 ?k6 ?k7 ?_ ?c2 ?c3 ?c4 ?c5
        (case k3 => k_is)
        (case k4 => k_is)
        (case k1 => assumption)
        (case k5 => omega)
        (case k6 => first | exact BindsTo.of_eq rfl | exact binds_K Xs rfl (by k_is) rfl rfl rfl)
        (case k7 => exact locs rfl)
        (case c2 => exact rfl)
        (case c3 => exact rfl)
        (case c4 => exact rfl)
        (case c5 => decide)
        k_whole
        intro g' L' h' gk' F' N' B' X' T'
        (try dsimp only [mled] at N')
        (try dsimp only)
        (try k_fold)))
  k_with "exec Raise some none" =>
    (k_dflt (refine' Raise_ge X T B' ?F X' T' ?d ?u ?a ?b ?c ?_; (case F => k_asm); (case d => ktr_room); (case u => ktr_units); (case a => exact rfl); (case b => exact rfl); (case c => exact rfl)))
  k_with "k_room" =>
    ktr_room
  k_with "call type:range" =>
    (k_dflt (refine' range1_rows ?F ?N ?_; (case F => k_asm); (case N => k_asm); intro h' tk' t1' u1' v1' R' F' N' kp'))
  k_with "exec For" =>
    (k_dflt (refine' For_own ?_ ?s; (case s => intro _; rfl)))
  k_with "ktr_rel" =>
    (
      (case F => k_asm)
      (case N => k_asm)
      (case A => exact rfl)
      (case L => exact rfl)
      (case K => intro h9; cases h9)
      (case d => ktr_room)
      (case u => ktr_units)
      (case e => intro h9; cases h9)
      intro h' tk' F' N'
      (try k_sweep))
  k_with "ktn_open" =>
    first | exact Rm.head | (apply Rm.tail; ktn_open)
  k_with "tb_start" =>
    first | exact Pick.nil | (refine' Pick.cons ?pka ?pkb; (case pka => ktn_open); (case pkb => tb_start))
  k_with "k_memK" =>
    first | exact ne0 | (refine ne1 ?x ?_; (case x => ((try dsimp only); omega)); k_memK)
  k_with "k_allIn" =>
    first | exact True.intro | (refine And.intro ?h ?_; (case h => k_memK); k_allIn)
  k_with "tb_rel" =>
    (
      (case F => k_asm)
      (case N => k_asm)
      (case A => exact rfl)
      (case L => exact rfl)
      (case K => intro h9; cases h9)
      (case d => ktr_room)
      (case u => ktr_units)
      (case e => intro h9; cases h9)
      (case P => tb_start)
      (case ne => k_allIn))
  k_with "compareOp In str ref" =>
    (k_dflt (refine' in_list_strs ?l ?i ?_; (case l => exact isL (by k_asm) (by k_mem)); (case i => assumption)))
  k_with "compareOp NotIn str ref" =>
    (k_dflt (refine' notin_list_strs ?l ?i ?_; (case l => exact isL (by k_asm) (by k_mem)); (case i => assumption)))
  k_with "call builtin:list.append" =>
    (k_dflt (refine' append_L ?k1 ?k2 ?k3 ?z ?_; (case k1 => k_asm); (case k2 => k_asm); (case k3 => k_upd); (case z => first | omega | (simp only [List.length_append, List.length_cons, List.length_nil]; omega)); k_whole); intro h' F' N'; (try k_sweep))
  k_with "call ref" =>
    (k_dflt (
      (first
      | (refine' use0 (is_kept ?a) X T B' ?F ?N ?A ?L ?K ?d ?u ?_ ?e; (case a => assumption))
      | (refine' use0 (is_literal ?a) X T B' ?F ?N ?A ?L ?K ?d ?u ?_ ?e; (case a => assumption))
      | (refine' use0 (check_name ?a ?b) X T B' ?F ?N ?A ?L ?K ?d ?u ?_ ?e; (case a => assumption); (case b => assumption)))
      ktr_rel))
  k_with "boot_fact" =>
    (refine' News.subl ?nwN ?nwS; (case nwN => k_asm); (case nwS => (intro p hp; repeat (first | with_reducible exact hp | with_reducible refine List.mem_cons_of_mem _ ?_))))
  k_with "mem_news" =>
    (with_reducible_and_instances (repeat (first | exact List.Mem.head _ | refine List.Mem.tail _ ?_)))
  k_with "call ref" =>
    (k_dflt (
      (with_reducible show wpAny _ _ (call (Value.ref 207) _) _ _ _)
      (refine' useX (check_name_any ?a) X T B' ?F ?N ?A ?L ?K ?d ?u ?_ ?e)
      (case a => assumption)
      (case F => k_asm)
      (case N => k_asm)
      (case A => exact rfl)
      (case L => exact rfl)
      (case K => intro h9; cases h9)
      (case d => ktr_room)
      (case u => ktr_units)
      (case e => intro hx9 e9 h9 tk9 fl9; refine pass_out gk' (fun p hp => (fp p hp).1) (by k_asm) ?_ fl9 fun h2 f2 => err ?_ _ _ _ f2; boot_fact; nest_cls)
      intro h' tk' F' N' hx'
      (try k_sweep)))
  k_with "kas_types" =>
    exact map4 (a := Str.ofString "text") (b := Str.ofString "kind") (c := Str.ofString "at") (d := Str.ofString "action") rfl rfl rfl rfl (fun y h1 h2 h3 h4 => by simp only [if_neg h1, if_neg h2, if_neg h3, if_neg h4])
  k_with "krn_off" =>
    (
      intro frs dp un gd s R hs G hap hd hu ret err
      subst hs
      have X := G.X
      have T := G.T
      have Xs : (frag.heap_1 w.params).In s.heap := X.keeps G.st
      k_dflt (
        refine' enterPd G _ ?k1 hap ?k3 ?k4 ?k5 ?k6 ?k8 ?k7 ?_ ?c2 ?c3 ?c4 ?c5
        (case k3 => k_is)
        (case k4 => k_is)
        (case k1 => assumption)
        (case k5 => omega)
        (case k6 => exact binds_K Xs rfl (by k_is) rfl rfl rfl)
        (case k8 => (refine' zr_of ?zra ?zrb; (case zra => (dsimp only [List.map_cons, List.map_nil]; try exact rfl)); (case zrb => first | exact zr1 | exact zr2 | exact zr3 | exact zr4 | exact zr5 | exact zr6 | exact zr7 | exact zr8)))
        (case k7 => exact locs rfl)
        (case c2 => exact rfl)
        (case c3 => exact rfl)
        (case c4 => exact rfl)
        (case c5 => decide)
        k_whole
        intro g' L' h' tk' gk' F' N' B' X' T'
        (try dsimp only [mled] at N')
        (try dsimp only)
        (try k_fold)))
  k_with "k_all" =>
    first | exact List.forall_mem_nil _ | with_reducible assumption | exact allLt_ne (by with_reducible assumption) | (refine' List.forall_mem_cons.mpr ⟨?a, ?b⟩; (case a => k_ne); (case b => k_all))
  k_with "k_allIn" =>
    first | exact True.intro | exact hAN | (refine And.intro ?h ?_; (case h => k_memK); k_allIn)
  k_with "call ref" =>
    (k_dflt (
      (with_reducible show wpAny _ _ (call (Value.ref 235) _) _ _ _)
      (refine' useX (check_rule_any ?a ?b ?c ?v ?ps ?po) X T B' ?F ?N ?A ?L ?K ?d ?u ?_ ?e)
      (case a => assumption)
      (case v => assumption)
      (case F => k_asm)
      (case N => k_asm)
      (case A => exact rfl)
      (case L => exact rfl)
      (case K => intro h9; cases h9)
      (case d => ktr_room)
      (case u => ktr_units)
      (case ps => assumption)
      (case po => assumption)
      (case b => exact IsList_Fr (by k_asm) (by assumption))
      (case c => exact PartsOn_Fr (by k_asm) (by assumption))
      (case e => intro hx9 e9 h9 tk9 fl9; first | (rw [hok] at hx9; cases hx9) | (refine pass_out gk' (fun p hp => (fp p hp).1) (by k_asm) ?_ fl9 fun h2 f2 => err ?_ _ _ _ f2; boot_fact; nest_cls))
      intro h' tk' F' N' hx'
      (try k_sweep)))
  k_with "call builtin:len" =>
    ((with_reducible show wpAny _ _ (call (Value.builtin "len") [Value.ref _]) _ _ _); k_dflt (refine' len_L ?l ?z ?_; (case l => first | exact IsList_Fr (by k_asm) (by with_reducible assumption) | exact isL (by k_asm) (by with_reducible k_mem)); (case z => first | omega | (simp only [List.length_append, List.length_cons, List.length_nil]; omega)); k_whole))
  k_with "subscriptTail Name Name ref int" =>
    (k_dflt (refine' item_B ?l ?i ?z ?_; (case l => exact IsList_Fr (by k_asm) (by assumption)); (case i => assumption); (case z => omega); k_whole))
  k_with "exec For Name Call cons nil" =>
    (k_dflt (refine' For_own ?_ ?s; (case s => intro _; rfl)))
  k_with "assign Tuple" =>
    (k_here; (with_reducible show wpAny _ _ (assign (Expr.Tuple _ _ _) _ (Value.ref _)) _ _ _); k_dflt (refine' unpackN_ ?F ?N ?T ?k1 ?k2 ?k3 ?_; (case F => k_asm); (case N => k_asm); (case T => exact IsTup_Fr (by k_asm) (by with_reducible assumption)); (case k1 => exact rfl); (case k2 => exact rfl); (case k3 => exact rfl)); intro h' F' N'; (try k_sweep))
  k_with "k_ne" =>
    (refine neN ?_; (try dsimp only); first | with_reducible exact Nat.ne_of_lt (by with_reducible assumption) | with_reducible exact Nat.ne_of_gt (by with_reducible assumption) | with_reducible assumption | with_reducible exact Ne.symm (by with_reducible assumption) | omega)
  k_with "k_memK" =>
    first | exact ne0 | (refine ne1 ?kmx ?_; (case kmx => k_ne); k_memK)
  k_with "ktr_room" =>
    ((try simp only [depth_under_make, depth_under_kw, depth_in1, depth_deeper]); (try dsimp only [Ar]); first | exact room1 (by with_reducible assumption) (by decide) | exact room2 (by with_reducible assumption) (by decide) | omega)
  k_with "ktr_units" =>
    ((try simp only [units_in1, units_deeper, Around.mark_units]); (try dsimp only [Ar]); first | exact units1 (by with_reducible assumption) (by decide) | exact units2 (by with_reducible assumption) (by decide) | exact units3 (by with_reducible assumption) (by decide) | omega)
  k_with "atoms" =>
    first | exact Atoms.nil | (refine' Atoms.str ?amn; (case amn => k_extra "atoms")) | (refine' Atoms.int ?amn; (case amn => k_extra "atoms")) | (refine' Atoms.none ?amn; (case amn => k_extra "atoms")) | (refine' Atoms.name ?amv ?amx ?amd ?amn; (case amv => exact rfl); (case amx => exact rfl); (case amd => decide); (case amn => k_extra "atoms"))
  k_with "spliced" =>
    ((try dsimp only); k_dflt (refine' spliced_atoms ?saF ?sae ?saH ?_ ?sak; (case saF => k_asm); (case sae => exact rfl); (case sak => exact rfl); (case saH => k_extra "atoms"); k_whole))
  k_with "eval Tuple" =>
    ((try dsimp only); k_dflt (refine' tuple_atoms ?saF ?saN ?sae ?saH ?saz ?_ ?sak; (case saF => k_asm); (case sae => exact rfl); (case saN => k_asm); (case sak => exact rfl); (case saH => k_extra "atoms"); (case saz => kmk_size)); intro D' h' F' N' l1; (try k_lt l1); (try k_sweep))
  k_with "eval List" =>
    ((try dsimp only); k_dflt (refine' list_atoms ?saF ?saN ?sae ?saH ?saz ?_ ?sak; (case saF => k_asm); (case sae => exact rfl); (case saN => k_asm); (case sak => exact rfl); (case saH => k_extra "atoms"); (case saz => kmk_size); k_whole); intro l' h' F' N' l1; (try k_lt l1); (try k_sweep))
  k_with "eval Call" =>
    ((try dsimp only); k_dflt (refine' call_atoms ?saF ?saX ?saT ?saE ?sae ?sakp ?saH ?_ ?sax ?sad ?sas ?sap ?sak; (case saF => k_asm); (case saE => exact rfl); (case saX => k_asm); (case saT => k_asm); (case sax => exact rfl); (case sae => k_is); (case sakp => k_is); (case saH => k_extra "atoms"); (case sad => decide); (case sas => exact rfl); (case sap => exact rfl); (case sak => exact rfl); k_whole))
  k_with "eqNo" =>
    first | exact EqC.int_no (by decide) | exact EqC.str_no (by with_reducible assumption) | exact EqC.str_no (by decide +kernel) | exact EqC.int_no (by omega)
  k_with "eqYes" =>
    first | exact EqC.int_yes rfl | exact EqC.str_yes (by with_reducible assumption) | exact EqC.str_yes (by decide +kernel) | exact EqC.int_yes (by omega)
  k_with "exec If" =>
    ((with_reducible show wpAny _ _ (exec (Stmt.If (Expr.Compare (Expr.Name _ _) [CmpOp.Eq] [Expr.Constant _ _ _] _) _ _ _) _) _ _ _); k_dflt (first
      | (refine' if_no ?siF ?sie ?siv ?sin ?_ ?six ?sid ?sik; (case siF => k_asm); (case sie => exact rfl); (case siv => exact rfl); (case sin => k_extra "eqNo"); (case six => exact rfl); (case sid => decide); (case sik => exact rfl); k_whole)
      | (refine' if_yes ?siF ?sie ?siv ?sin ?_ ?six ?sid ?sik; (case siF => k_asm); (case sie => exact rfl); (case siv => exact rfl); (case sin => k_extra "eqYes"); (case six => exact rfl); (case sid => decide); (case sik => exact rfl); k_whole)))
  k_with "kat_tups" =>
    first | with_reducible_and_instances exact List.Mem.head _ | (refine List.Mem.tail _ ?_; kat_tups) | (refine List.mem_append.mpr (Or.inl ?_); kat_tups) | (refine List.mem_append.mpr (Or.inr ?_); kat_tups) | with_reducible assumption | with_reducible_and_instances exact hq | ((with_reducible show List.Mem _ _); with_reducible_and_instances assumption)
  k_with "top_args" =>
    first | exact List.forall_mem_nil _ | (refine List.forall_mem_cons.mpr (And.intro ?_ ?_); kat_tups; top_args) | (refine List.forall_mem_append.mpr (And.intro ?_ ?_); top_args; top_args) | (intro q hq; kat_tups)
  k_with "mem_news" =>
    first | ((with_reducible_and_instances (repeat (first | exact List.Mem.head _ | refine List.Mem.tail _ ?_))); done) | ((with_reducible show _ ∈ _); kat_tups) | ((try dsimp only [penL, booksL, mled, List.cons_append, List.nil_append]); top_args)
  k_with "ltD" =>
    first | with_reducible assumption | exact lt_l1 (by with_reducible assumption) (by kat_tups) | omega
  k_with "k_ne" =>
    (refine neN ?_; (try dsimp only); first | with_reducible assumption | with_reducible exact Ne.symm (by with_reducible assumption) | with_reducible exact Nat.ne_of_lt (by with_reducible assumption) | with_reducible exact Nat.ne_of_gt (by with_reducible assumption) | exact ne_l1 (by with_reducible assumption) (by kat_tups) | exact Ne.symm (ne_l1 (by with_reducible assumption) (by kat_tups)) | exact ne_l1s (by with_reducible assumption) (by kat_tups) | exact Ne.symm (ne_l1s (by with_reducible assumption) (by kat_tups)) | exact ne_lt2 (by with_reducible assumption) (by with_reducible assumption) (by kat_tups) | exact Ne.symm (ne_lt2 (by with_reducible assumption) (by with_reducible assumption) (by kat_tups)) | exact Anew.ne (by with_reducible assumption) (by kat_tups) | exact Ne.symm (Anew.ne (by with_reducible assumption) (by kat_tups)) | omega)
  k_with "k_all" =>
    first | exact List.forall_mem_nil _ | with_reducible assumption | exact tail_l1 (by with_reducible assumption) (by intro q hq; kat_tups) | (refine' List.forall_mem_cons.mpr ⟨?kaa, ?kab⟩; (case kaa => k_ne); (case kab => k_all))
  k_with "k_allIn" =>
    first | exact True.intro | with_reducible assumption | ((with_reducible refine AllNe.app ?_ ?_) <;> k_allIn) | (refine And.intro ?kah ?_; (case kah => k_memK); k_allIn)
  k_with "useC" =>
    (
      (case F => k_asm)
      (case N => k_asm)
      (case A => exact rfl)
      (case L => exact rfl)
      (case K => intro h9; cases h9)
      (case d => ktr_room)
      (case u => ktr_units)
      (case P => tb_start)
      (case ne => k_allIn))
  k_with "dipC" =>
    (
      (case ta => with_reducible assumption)
      (case tb => assumption)
      (case tc => assumption)
      k_extra "useC"
      (case tg => first | with_reducible assumption | omega)
      (case th => first | exact PB.lt6 (by with_reducible assumption) (by with_reducible assumption) (by decide) | exact PB.lt (by with_reducible assumption) (by with_reducible assumption) (by decide) | omega)
      (case ti => first | with_reducible assumption | omega))
  k_with "pbStep" =>
    (have hPB := PB.step (by with_reducible assumption) hp1)
  k_with "eval Tuple" =>
    ((try dsimp only); k_dflt (refine' tuple_atomsL ?saF ?saN ?sae ?saH ?saz ?_ ?sak; (case saF => k_asm); (case sae => exact rfl); (case saN => k_asm); (case sak => exact rfl); (case saH => k_extra "atoms"); (case saz => kmk_size)); intro D' h' nw' F' N' l1; (try k_lt l1); (try k_sweep))
  k_with "eval List" =>
    ((try dsimp only); k_dflt (refine' list_atomsL ?saF ?saN ?sae ?saH ?saz ?_ ?sak; (case saF => k_asm); (case sae => exact rfl); (case saN => k_asm); (case sak => exact rfl); (case saH => k_extra "atoms"); (case saz => kmk_size); k_whole); intro l' h' nw' F' N' l1; (try k_lt l1); (try k_sweep))
  k_with "newTuple" =>
    ((try dsimp only); k_dflt (refine' newTupleL ?F ?N ?_ ?z; (case F => k_asm); (case N => k_asm); (case z => kmk_size)); intro D' h' nw' F' N' l1; (try k_sweep))
  k_with "newList" =>
    ((try dsimp only); k_dflt (refine' newListL ?F ?N ?_ ?z; (case F => k_asm); (case N => k_asm); (case z => kmk_size)); intro D' h' nw' F' N' l1; (try k_sweep))
  k_with "storeName" =>
    ((try dsimp only); k_dflt (refine' storeL ?F ?N ?_ ?a ?b; (case F => k_asm); (case N => k_asm); (case a => exact rfl); (case b => exact rfl); k_whole); intro h' mm' F' N'; (try k_sweep))
  k_with "hasK" =>
    first | with_reducible assumption | exact Has.six | (refine' Has.cons ?_; k_extra "hasK")
  k_with "k_allIn" =>
    first | exact True.intro | with_reducible assumption | (refine' Has.allNe ?hhh ?hhl ?_; (case hhl => with_reducible assumption); (case hhh => k_extra "hasK"); k_allIn) | (refine' Has.allNe2 ?hhh ?hhl ?_; (case hhl => with_reducible assumption); (case hhh => k_extra "hasK"); k_allIn) | ((with_reducible refine AllNe.app ?_ ?_) <;> k_allIn) | (refine And.intro ?kah ?_; (case kah => k_memK); k_allIn)
  k_with "small" =>
    first | with_reducible assumption | omega
  k_with "call ref" =>
    (k_dflt (
      (with_reducible show wpAny _ _ (call (Value.ref 256) _) _ _ _)
      (refine' token_use ?uo ?us ?ul ?ux ?uk X T B' ?F ?N ?A ?L ?K ?d ?u ?P ?ne ?_)
      (case uo => assumption)
      (case ux => assumption)
      k_extra "useC"
      (case us => assumption)
      (case ul => k_extra "small")
      (case uk => first | assumption | exact hkp (by assumption))
      intro ts' te' h' tk' nw' hs' F' N'
      (try k_sweep)))
  k_with "call ref" =>
    (k_dflt (
      (with_reducible show wpAny _ _ (call (Value.ref 291) _) _ _ _)
      (refine' use_use ?uo ?us ?ul ?ux ?uk X T B' ?F ?N ?A ?L ?K ?d ?u ?P ?ne ?_)
      (case uo => assumption)
      (case ux => assumption)
      k_extra "useC"
      (case us => assumption)
      (case ul => k_extra "small")
      (case uk => first | assumption | exact hkp (by assumption))
      intro ts' te' h' tk' nw' hs' F' N'
      (try k_sweep)))
  k_with "call ref" =>
    (k_dflt (
      (with_reducible show wpAny _ _ (call (Value.ref 284) _) _ _ _)
      (refine' left_use ?uo ?us ?ul X T B' ?F ?N ?A ?L ?K ?d ?u ?P ?ne ?_)
      (case uo => assumption)
      k_extra "useC"
      (case us => assumption)
      (case ul => k_extra "small")
      intro ls' le' h' tk' nw' hs' F' N'
      (try k_sweep)))
  k_with "k_ne" =>
    (refine neN ?_; (try dsimp only); first | with_reducible assumption | with_reducible exact Ne.symm (by with_reducible assumption) | with_reducible exact Nat.ne_of_lt (by with_reducible assumption) | with_reducible exact Nat.ne_of_gt (by with_reducible assumption) | exact ne_l1 (by with_reducible assumption) (by kat_tups) | exact Ne.symm (ne_l1 (by with_reducible assumption) (by kat_tups)) | exact ne_mem (by with_reducible assumption) (by kat_tups) | exact Ne.symm (ne_mem (by with_reducible assumption) (by kat_tups)) | exact ne_l1s (by with_reducible assumption) (by kat_tups) | exact Ne.symm (ne_l1s (by with_reducible assumption) (by kat_tups)) | exact ne_lt2 (by with_reducible assumption) (by with_reducible assumption) (by kat_tups) | exact Ne.symm (ne_lt2 (by with_reducible assumption) (by with_reducible assumption) (by kat_tups)) | exact Anew.ne (by with_reducible assumption) (by kat_tups) | exact Ne.symm (Anew.ne (by with_reducible assumption) (by kat_tups)) | omega)
  k_with "k_all" =>
    first | exact List.forall_mem_nil _ | with_reducible assumption | exact tail_l1 (by with_reducible assumption) (by intro q hq; kat_tups) | exact AllNe.off (by with_reducible assumption) (by (repeat (first | exact List.Mem.head _ | refine List.Mem.tail _ ?_))) | (refine' List.forall_mem_cons.mpr ⟨?kaa, ?kab⟩; (case kaa => k_ne); (case kab => k_all)) | ((refine List.forall_mem_append.mpr (And.intro ?_ ?_)) <;> k_all)
  k_with "call builtin:len" =>
    ((with_reducible show wpAny _ _ (call (Value.builtin "len") [Value.ref _]) _ _ _); k_dflt (refine' len_L ?ll ?lz ?_; (case ll => (refine' isL ?lN ?lm; (case lN => k_asm); (case lm => mem_news))); (case lz => first | omega | (simp only [List.length_append, List.length_cons, List.length_nil]; omega)); k_whole))
  k_with "call ref" =>
    (k_dflt (
      (with_reducible show wpAny _ _ (call (Value.ref 298) _) _ _ _)
      (refine' mid_use ?uo ?us ?ul ?um ?un ?uq X T B' ?F ?N ?A ?L ?K ?d ?u ?P ?ne ?_)
      (case uo => assumption)
      k_extra "useC"
      (case us => assumption)
      (case ul => k_extra "small")
      (case um => k_extra "small")
      (case un => k_extra "small")
      (case uq => k_extra "small")
      intro t' ls' le' mct' x' de' nd' h' tk' nw' hs' hn' hd' hf' F' N'
      (try have hNr' := hf' _ (List.Mem.tail _ (List.Mem.head _)))
      (try k_sweep)))
  k_with "call ref" =>
    ((try dsimp only); k_dflt (
        (with_reducible show wpAny _ _ (call (Value.ref 224) _) _ _ _)
        (refine' draft_useL ?dpv ?dav X T B' ?F ?N X' ?A ?L ?K ?d ?u ?_)
        (case dpv => first | with_reducible assumption | exact OptS.none | exact OptS.some _ _)
        (case dav => first | with_reducible assumption | exact OptS.none | exact OptS.some _ _)
        (case F => k_asm)
        (case N => k_asm)
        (case A => exact rfl)
        (case L => exact rfl)
        (case K => intro h9; cases h9)
        (case d => ktr_room)
        (case u => ktr_units)
        intro x' d' kd1 kd2 kd3 kd4 kd5 kd6 h' tk' nw1' nw' F' N' l1 l2))
  k_with "eval Tuple" =>
    (k_fold; walk_at "eval Tuple")
  k_with "eval List" =>
    (k_fold; walk_at "eval List")
  k_with "eval BinOp" =>
    (k_fold; walk_at "eval BinOp")
  k_with "eval Call" =>
    (k_fold; walk_at "eval Call")
  k_with "eval Subscript" =>
    (k_fold; walk_at "eval Subscript")
  k_with "execs cons" =>
    (k_fold; walk_at "execs cons")
  k_with "exec If" =>
    (k_fold; walk_at "exec If")
  k_with "exec Assign" =>
    (k_fold; walk_at "exec Assign")
  k_with "exec Return some" =>
    (k_fold; walk_at "exec Return some")
  k_with "exec Expr" =>
    (k_fold; walk_at "exec Expr")
  k_with "ltSkip" => skip
  trivial
section
variable {w : World} {loose : List Str} {mean : ExcName → Option Value} {mg mb : Str → Option Value} {base : Heap}
variable {h : Heap} {m : MA} {lc : Int} {lct : Tok} {mc : Int} {mct : Tok} {st ex : Value} {ts : List Value} {te : Nat} {lo : Obj} {ds : List Value} {de : Nat} {ls : List Value} {le : Nat} {ss zs : List Str}
theorem rule_ok {x : Str} {t tl : Tok} {ln : Int} {l : Addr} {vs : List Value} {ps : List Part} {pv : Value} {po : Option Str} (o : m.Ok) (hs : StrsAre ts ss) (hz : StrsAre ls zs)
    (hx : x.length < 1000) (hlp : ∀ g : Heap, (∀ b o, h.get? b = some o → b ∉ [m.x, m.d, m.t, m.lv, m.dr, m.lf] → g.get? b = some o) → g.IsList l vs.toArray ∧ PartsOn (inh g) vs ps) (hv : OptS pv po) (hps : ∀ (i : Nat) (p : Part), ps[i]? = some p → p.1.length < 1000 ∧ p.2.length < 1000) (hpo : ∀ y, po = some y → y.length < 1000)
    (hok : crOk x ps po = true) (hts : ts.length < 800) (hls : ls.length < 800) (hds : ds.length < 800) (hpn : ps.length < 100) (hm0 : 0 ≤ mc) (hm1 : mc < 800) :
    FP base h (mled w m lc lct mc mct st ex ts te lo ds de ls le) → Spec w loose mean mg mb base 306 [.ref m.x, .str x t, .ref l, pv, .int ln tl] 7 h (mled w m lc lct mc mct st ex ts te lo ds de ls le)
      (RulePost w m lc lct st ex lo ds (ruleEnd x ps po ln ss zs mc)) False := by
  have o' := o
  refine o'.cps ?_
  intro a1 a2 a3 a4 a5 a6 a7 a8 a9 a10 a11 a12 a13 a14 a15
  have b1 : ss.length < 800 := by rw [← hs.length]; exact hts
  have b2 : (addNew zs x).length < 850 := by have e7 := hz.length; have e8 := addNew_len zs x; omega
  intro fp
  krn_off
  have hl' := (hlp g' gk').1
  have hp' := (hlp g' gk').2
  have hvn : vs.length < 100 := by rw [All2.len hp']; exact hpn
  clear hlp
  refine foldN N' ?_
  clear N'
  intro nw' N'
  k_steps
  refine loopR (fun i mm nx => RJ w m lc lct st ex lo ds l' (fun y => if y = Str.ofString "right" then some (.ref l') else List.lookup y [(Str.ofString "line", Value.int ln tl), (Str.ofString "prec", pv), (Str.ofString "parts", Value.ref l), (Str.ofString "left", Value.str x t), (Str.ofString "self", Value.ref m.x)]) (partsRun ps ln ⟨ss, addNew zs x, mc, [], [], none⟩ i) mm nx) (by exact rfl) (by assumption) (by omega) (by passes_own) (fun _ _ => rfl) F' N' ?init ?turn ?done
  case init =>
    exact .mk (ds2 := []) (nd := []) (rs := []) (re := 0) hs hs' .nil .none True.intro (fun _ h => nomatch h) .nil (by simp only [List.append_nil]; rfl) (fun y _ _ _ => rfl)
  case turn =>
    intro i ti5 m1 nx h5 tk5 I oI hi hJ hnx F5 N5
    clear F' N'
    refine hideT fun Qt hQt => ?_
    refine RJ.elim hJ F5 N5 hnx b1 b2 hm0 hm1 (Nat.lt_trans hi hvn) hds ?_
    clear hJ F5 N5 hnx
    intro sts sls smc sds srt sact av mct5 ts5 te5 ls5 le5 ds5 de5 nd rs5 re5 x0 x1 x2 hS mp nx5 nw5 F' N' hnI hT hLs hR hav hAN hNr hD sz1 sz2 sz3 sz4 sm0 sm1
    refine part_at hp' hi hok hps ?_
    intro a p1 p2 t1 t2 hvi hpi hta hkp hl1 hl2
    k_steps
    · refine hQt _ _ ?_
      show TEnd _ _ _ _ _ _ _
      refine tEnd (by k_asm) (News.subl N' rot8) (keys7 hnI) ?_
      show RJ _ _ _ _ _ _ _ _ _ _ (partsRun ps ln _ (i + 1)) _ _
      rw [run_succ hpi hS, step_sym (by with_reducible assumption)]
      exact .mk hs' hLs (strs_snoc hR) hav hAN hNr hD rfl (fun y z1 z2 z3 => by simp +zetaDelta only [rmap, if_neg z1, if_neg z2, if_neg z3])
    · refine hQt _ _ ?_
      show TEnd _ _ _ _ _ _ _
      refine tEnd (by k_asm) (by k_asm) (keys7 hnI) ?_
      show RJ _ _ _ _ _ _ _ _ _ _ (partsRun ps ln _ (i + 1)) _ _
      rw [run_succ hpi hS, step_act (by with_reducible assumption) (last_yes (by assumption) hp'.len)]
      exact .mk hT hLs hR (.some _ t2) hAN hNr hD rfl (fun y z1 z2 z3 => by
        by_cases z4 : y = Str.ofString "action"
        · simp +zetaDelta only [if_pos z4]
        · simp +zetaDelta only [rmap, if_neg z1, if_neg z2, if_neg z3, if_neg z4])
    · refine hQt _ _ ?_
      show TEnd _ _ _ _ _ _ _
      refine tEnd (by k_asm) (News.subl N' rot8) (keys7a hnI (hf' _ (.head _))) ?_
      show RJ _ _ _ _ _ _ _ _ _ _ (partsRun ps ln _ (i + 1)) _ _
      rw [run_succ hpi hS, step_mid (by with_reducible assumption) (last_no (by assumption) hp'.len)]
      refine .mk (ds2 := ds5 ++ [.ref x']) (nd := nd ++ nd') hT hs' (strs_snoc hR) hav (AllNe.app hAN hn') (List.forall_mem_append.mpr ⟨hNr, hNr'⟩) ?dr (by rw [← List.append_assoc]; rfl) (fun y z1 z2 z3 => by simp +zetaDelta only [rmap, if_neg z1, if_neg z2, if_neg z3])
      rw [hR.length] at hd'
      exact (hD.mono fun _ _ => DraftOn.mono fun _ _ h => List.mem_append.mpr (.inl h)).append (.cons (hd'.mono fun _ _ h => List.mem_append.mpr (.inr h)) .nil)
  case done =>
    intro m1 nx h5 tk5 hJ F5 N5
    clear F' N'
    refine RJ.elimD hJ F5 N5 b1 b2 hm0 hm1 hvn hds ?_
    clear hJ F5 N5
    intro sts sls smc sds srt sact av mct5 ts5 te5 ls5 le5 ds5 de5 nd rs5 re5 x0 x1 x2 hS mp nw5 F' N' hT hLs hR hav hAN hNr hD sz1 sz2 sz3 sz4 sm0 sm1
    have hE := ruleEnd_eq (x := x) (po := po) hp'.len hS
    cases hv
    case' some y ty => have hkq := ok_prec hok; have hyl := hpo _ rfl
    all_goals k_steps
    all_goals refine leaveC (by k_asm) (by k_asm) fun kp nw => ?_
    all_goals first
      | (obtain ⟨n9, hn9, hp9⟩ := rule_endA nw hE (by with_reducible assumption) (by with_reducible assumption) (by with_reducible assumption) (.some _ _) hav hD (by k_dflt k_allIn)
         exact ret _ _ _ n9 kp hn9 hp9)
      | (obtain ⟨n9, hn9, hp9⟩ := rule_endB nw hE (by with_reducible assumption) (by with_reducible assumption) (by with_reducible assumption) .none hav hD (by k_dflt k_allIn)
         exact ret _ _ _ n9 kp hn9 hp9)
end
theorem words_B18 : True := by
  k_with_none
  k_with "ktr_room" =>
    ((try simp only [depth_under_make, depth_under_kw, depth_in1, depth_deeper]); (try dsimp only [Ar]); omega)
  k_with "ktr_units" =>
    ((try simp only [units_in1, units_deeper, Around.mark_units]); (try dsimp only [Ar]); omega)
  k_with "ktr_enter" =>
    (
      intro frs dp un gd s R hs G hap hd hu ret err
      subst hs
      have X := G.X
      have T := G.T
      k_dflt (
        refine' enterP G _ ?k1 hap ?k3 ?k4 ?k5 ?k6 ?k8 ?k7 ?_ ?c2 ?c3 ?c4 ?c5
        (case k3 => k_is)
        (case k4 => k_is)
        (case k1 => assumption)
        (case k5 => omega)
        (case k6 => exact rfl)
        (case k8 => (refine' zr_of ?zra ?zrb; (case zra => (dsimp only [List.map_cons, List.map_nil]; try exact rfl)); (case zrb => first | exact zr1 | exact zr2 | exact zr3 | exact zr4 | exact zr5 | exact zr6 | exact zr7 | exact zr8)))
        (case k7 => exact locs rfl)
        (case c2 => exact rfl)
        (case c3 => exact rfl)
        (case c4 => exact rfl)
        (case c5 => decide)
        k_whole
        intro g' L' h' tk' gk' F' N' B' X' T'
        (try dsimp only [mled] at N')
        (try dsimp only)
        (try k_fold)))
  k_with "ktr_step" =>
    (
      intro frs dp un gd s R hs G hap hd hu ret err
      subst hs
      have X := G.X
      have T := G.T
      have Xs : (frag.heap_1 w.params).In s.heap := X.keeps G.st
      k_dflt (
        refine' enter G _ ?k1 hap ?k3 ?k4 ?k5 ?k6 ?k7 ?_ ?c2 ?c3 ?c4 ?c5
        (case k3 => k_is)
        (case k4 => k_is)
        (case k1 => assumption)
        (case k5 => omega)
        (case k6 => first | exact BindsTo.of_eq rfl | exact binds_K Xs rfl (by k_is) rfl rfl rfl)
        (case k7 => exact locs rfl)
        (case c2 => exact rfl)
        (case c3 => exact rfl)
        (case c4 => exact rfl)
        (case c5 => decide)
        k_whole
        intro g' L' h' gk' F' N' B' X' T'
        (try dsimp only [mled] at N')
        (try dsimp only)
        (try k_fold)))
  k_with "exec Raise some none" =>
    (k_dflt (refine' Raise_ge X T B' ?F X' T' ?d ?u ?a ?b ?c ?_; (case F => k_asm); (case d => ktr_room); (case u => ktr_units); (case a => exact rfl); (case b => exact rfl); (case c => exact rfl)))
  k_with "k_room" =>
    ktr_room
  k_with "call type:range" =>
    (k_dflt (refine' range1_rows ?F ?N ?_; (case F => k_asm); (case N => k_asm); intro h' tk' t1' u1' v1' R' F' N' kp'))
  k_with "exec For" =>
    (k_dflt (refine' For_own ?_ ?s; (case s => intro _; rfl)))
  k_with "ktr_room" =>
    ((try simp only [depth_under_make, depth_under_kw, depth_in1, depth_deeper]); (try dsimp only [Ar]); omega)
  k_with "ktr_units" =>
    ((try simp only [units_in1, units_deeper, Around.mark_units]); (try dsimp only [Ar]); omega)
  k_with "ktr_enter" =>
    (
      intro frs dp un gd s R hs G hap hd hu ret err
      subst hs
      have X := G.X
      have T := G.T
      k_dflt (
        refine' enterP G _ ?k1 hap ?k3 ?k4 ?k5 ?k6 ?k8 ?k7 ?_ ?c2 ?c3 ?c4 ?c5
        (case k3 => k_is)
        (case k4 => k_is)
        (case k1 => assumption)
        (case k5 => omega)
        (case k6 => exact rfl)
        (case k8 => (refine' zr_of ?zra ?zrb; (case zra => (dsimp only [List.map_cons, List.map_nil]; try exact rfl)); (case zrb => first | exact zr1 | exact zr2 | exact zr3 | exact zr4 | exact zr5 | exact zr6 | exact zr7 | exact zr8)))
        (case k7 => exact locs rfl)
        (case c2 => exact rfl)
        (case c3 => exact rfl)
        (case c4 => exact rfl)
        (case c5 => decide)
        k_whole
        intro g' L' h' tk' gk' F' N' B' X' T'
        (try dsimp only [mled] at N')
        (try dsimp only)
        (try k_fold)))
  k_with "ktr_step" =>
    (
      intro frs dp un gd s R hs G hap hd hu ret err
      subst hs
      have X := G.X
      have T := G.T
      have Xs : (frag.heap_1 w.params).In s.heap := X.keeps G.st
      k_dflt (
        refine' enter G _ ?k1 hap ?k3 ?k4 ?k5 ?k6 ?k7 ?_ ?c2 ?c3 ?c4 ?c5
        (case k3 => k_is)
        (case k4 => k_is)
        (case k1 => assumption)
        (case k5 => omega)
        (case k6 => first | exact BindsTo.of_eq rfl | exact binds_K Xs rfl (by k_is) rfl rfl rfl)
        (case k7 => exact locs rfl)
        (case c2 => exact rfl)
        (case c3 => exact rfl)
        (case c4 => exact rfl)
        (case c5 => decide)
        k_whole
        intro g' L' h' gk' F' N' B' X' T'
        (try dsimp only [mled] at N')
        (try dsimp only)
        (try k_fold)))
  k_with "exec Raise some none" =>
    (k_dflt (refine' Raise_ge X T B' ?F X' T' ?d ?u ?a ?b ?c ?_; (case F => k_asm); (case d => ktr_room); (case u => ktr_units); (case a => exact rfl); (case b => exact rfl); (case c => exact rfl)))
  k_with "k_room" =>
    ktr_room
  k_with "call type:range" =>
    (k_dflt (refine' range1_rows ?F ?N ?_; (case F => k_asm); (case N => k_asm); intro h' tk' t1' u1' v1' R' F' N' kp'))
  k_with "exec For" =>
    (k_dflt (refine' For_own ?_ ?s; (case s => intro _; rfl)))
  k_with "ktr_rel" =>
    (
      (case F => k_asm)
      (case N => k_asm)
      (case A => exact rfl)
      (case L => exact rfl)
      (case K => intro h9; cases h9)
      (case d => ktr_room)
      (case u => ktr_units)
      (case e => intro h9; cases h9)
      intro h' tk' F' N'
      (try k_sweep))
  k_with "ktn_open" =>
    first | exact Rm.head | (apply Rm.tail; ktn_open)
  k_with "tb_start" =>
    first | exact Pick.nil | (refine' Pick.cons ?pka ?pkb; (case pka => ktn_open); (case pkb => tb_start))
  k_with "k_memK" =>
    first | exact ne0 | (refine ne1 ?x ?_; (case x => ((try dsimp only); omega)); k_memK)
  k_with "k_allIn" =>
    first | exact True.intro | (refine And.intro ?h ?_; (case h => k_memK); k_allIn)
  k_with "tb_rel" =>
    (
      (case F => k_asm)
      (case N => k_asm)
      (case A => exact rfl)
      (case L => exact rfl)
      (case K => intro h9; cases h9)
      (case d => ktr_room)
      (case u => ktr_units)
      (case e => intro h9; cases h9)
      (case P => tb_start)
      (case ne => k_allIn))
  k_with "compareOp In str ref" =>
    (k_dflt (refine' in_list_strs ?l ?i ?_; (case l => exact isL (by k_asm) (by k_mem)); (case i => assumption)))
  k_with "compareOp NotIn str ref" =>
    (k_dflt (refine' notin_list_strs ?l ?i ?_; (case l => exact isL (by k_asm) (by k_mem)); (case i => assumption)))
  k_with "call builtin:list.append" =>
    (k_dflt (refine' append_L ?k1 ?k2 ?k3 ?z ?_; (case k1 => k_asm); (case k2 => k_asm); (case k3 => k_upd); (case z => first | omega | (simp only [List.length_append, List.length_cons, List.length_nil]; omega)); k_whole); intro h' F' N'; (try k_sweep))
  k_with "call ref" =>
    (k_dflt (
      (first
      | (refine' use0 (is_kept ?a) X T B' ?F ?N ?A ?L ?K ?d ?u ?_ ?e; (case a => assumption))
      | (refine' use0 (is_literal ?a) X T B' ?F ?N ?A ?L ?K ?d ?u ?_ ?e; (case a => assumption))
      | (refine' use0 (check_name ?a ?b) X T B' ?F ?N ?A ?L ?K ?d ?u ?_ ?e; (case a => assumption); (case b => assumption)))
      ktr_rel))
  k_with "boot_fact" =>
    (refine' News.subl ?nwN ?nwS; (case nwN => k_asm); (case nwS => (intro p hp; repeat (first | with_reducible exact hp | with_reducible refine List.mem_cons_of_mem _ ?_))))
  k_with "mem_news" =>
    (with_reducible_and_instances (repeat (first | exact List.Mem.head _ | refine List.Mem.tail _ ?_)))
  k_with "call ref" =>
    (k_dflt (
      (with_reducible show wpAny _ _ (call (Value.ref 207) _) _ _ _)
      (refine' useX (check_name_any ?a) X T B' ?F ?N ?A ?L ?K ?d ?u ?_ ?e)
      (case a => assumption)
      (case F => k_asm)
      (case N => k_asm)
      (case A => exact rfl)
      (case L => exact rfl)
      (case K => intro h9; cases h9)
      (case d => ktr_room)
      (case u => ktr_units)
      (case e => intro hx9 e9 h9 tk9 fl9; refine pass_out gk' (fun p hp => (fp p hp).1) (by k_asm) ?_ fl9 fun h2 f2 => err ?_ _ _ _ f2; boot_fact; nest_cls)
      intro h' tk' F' N' hx'
      (try k_sweep)))
  k_with "kas_types" =>
    exact map4 (a := Str.ofString "text") (b := Str.ofString "kind") (c := Str.ofString "at") (d := Str.ofString "action") rfl rfl rfl rfl (fun y h1 h2 h3 h4 => by simp only [if_neg h1, if_neg h2, if_neg h3, if_neg h4])
  k_with "krn_off" =>
    (
      intro frs dp un gd s R hs G hap hd hu ret err
      subst hs
      have X := G.X
      have T := G.T
      have Xs : (frag.heap_1 w.params).In s.heap := X.keeps G.st
      k_dflt (
        refine' enterPd G _ ?k1 hap ?k3 ?k4 ?k5 ?k6 ?k8 ?k7 ?_ ?c2 ?c3 ?c4 ?c5
        (case k3 => k_is)
        (case k4 => k_is)
        (case k1 => assumption)
        (case k5 => omega)
        (case k6 => exact binds_K Xs rfl (by k_is) rfl rfl rfl)
        (case k8 => (refine' zr_of ?zra ?zrb; (case zra => (dsimp only [List.map_cons, List.map_nil]; try exact rfl)); (case zrb => first | exact zr1 | exact zr2 | exact zr3 | exact zr4 | exact zr5 | exact zr6 | exact zr7 | exact zr8)))
        (case k7 => exact locs rfl)
        (case c2 => exact rfl)
        (case c3 => exact rfl)
        (case c4 => exact rfl)
        (case c5 => decide)
        k_whole
        intro g' L' h' tk' gk' F' N' B' X' T'
        (try dsimp only [mled] at N')
        (try dsimp only)
        (try k_fold)))
  k_with "k_all" =>
    first | exact List.forall_mem_nil _ | with_reducible assumption | exact allLt_ne (by with_reducible assumption) | (refine' List.forall_mem_cons.mpr ⟨?a, ?b⟩; (case a => k_ne); (case b => k_all))
  k_with "k_allIn" =>
    first | exact True.intro | exact hAN | (refine And.intro ?h ?_; (case h => k_memK); k_allIn)
  k_with "call ref" =>
    (k_dflt (
      (with_reducible show wpAny _ _ (call (Value.ref 235) _) _ _ _)
      (refine' useX (check_rule_any ?a ?b ?c ?v ?ps ?po) X T B' ?F ?N ?A ?L ?K ?d ?u ?_ ?e)
      (case a => assumption)
      (case v => assumption)
      (case F => k_asm)
      (case N => k_asm)
      (case A => exact rfl)
      (case L => exact rfl)
      (case K => intro h9; cases h9)
      (case d => ktr_room)
      (case u => ktr_units)
      (case ps => assumption)
      (case po => assumption)
      (case b => exact IsList_Fr (by k_asm) (by assumption))
      (case c => exact PartsOn_Fr (by k_asm) (by assumption))
      (case e => intro hx9 e9 h9 tk9 fl9; first | (rw [hok] at hx9; cases hx9) | (refine pass_out gk' (fun p hp => (fp p hp).1) (by k_asm) ?_ fl9 fun h2 f2 => err ?_ _ _ _ f2; boot_fact; nest_cls))
      intro h' tk' F' N' hx'
      (try k_sweep)))
  k_with "call builtin:len" =>
    ((with_reducible show wpAny _ _ (call (Value.builtin "len") [Value.ref _]) _ _ _); k_dflt (refine' len_L ?l ?z ?_; (case l => first | exact IsList_Fr (by k_asm) (by with_reducible assumption) | exact isL (by k_asm) (by with_reducible k_mem)); (case z => first | omega | (simp only [List.length_append, List.length_cons, List.length_nil]; omega)); k_whole))
  k_with "subscriptTail Name Name ref int" =>
    (k_dflt (refine' item_B ?l ?i ?z ?_; (case l => exact IsList_Fr (by k_asm) (by assumption)); (case i => assumption); (case z => omega); k_whole))
  k_with "exec For Name Call cons nil" =>
    (k_dflt (refine' For_own ?_ ?s; (case s => intro _; rfl)))
  k_with "assign Tuple" =>
    (k_here; (with_reducible show wpAny _ _ (assign (Expr.Tuple _ _ _) _ (Value.ref _)) _ _ _); k_dflt (refine' unpackN_ ?F ?N ?T ?k1 ?k2 ?k3 ?_; (case F => k_asm); (case N => k_asm); (case T => exact IsTup_Fr (by k_asm) (by with_reducible assumption)); (case k1 => exact rfl); (case k2 => exact rfl); (case k3 => exact rfl)); intro h' F' N'; (try k_sweep))
  k_with "k_ne" =>
    (refine neN ?_; (try dsimp only); first | with_reducible exact Nat.ne_of_lt (by with_reducible assumption) | with_reducible exact Nat.ne_of_gt (by with_reducible assumption) | with_reducible assumption | with_reducible exact Ne.symm (by with_reducible assumption) | omega)
  k_with "k_memK" =>
    first | exact ne0 | (refine ne1 ?kmx ?_; (case kmx => k_ne); k_memK)
  k_with "ktr_room" =>
    ((try simp only [depth_under_make, depth_under_kw, depth_in1, depth_deeper]); (try dsimp only [Ar]); first | exact room1 (by with_reducible assumption) (by decide) | exact room2 (by with_reducible assumption) (by decide) | omega)
  k_with "ktr_units" =>
    ((try simp only [units_in1, units_deeper, Around.mark_units]); (try dsimp only [Ar]); first | exact units1 (by with_reducible assumption) (by decide) | exact units2 (by with_reducible assumption) (by decide) | exact units3 (by with_reducible assumption) (by decide) | omega)
  k_with "atoms" =>
    first | exact Atoms.nil | (refine' Atoms.str ?amn; (case amn => k_extra "atoms")) | (refine' Atoms.int ?amn; (case amn => k_extra "atoms")) | (refine' Atoms.none ?amn; (case amn => k_extra "atoms")) | (refine' Atoms.name ?amv ?amx ?amd ?amn; (case amv => exact rfl); (case amx => exact rfl); (case amd => decide); (case amn => k_extra "atoms"))
  k_with "spliced" =>
    ((try dsimp only); k_dflt (refine' spliced_atoms ?saF ?sae ?saH ?_ ?sak; (case saF => k_asm); (case sae => exact rfl); (case sak => exact rfl); (case saH => k_extra "atoms"); k_whole))
  k_with "eval Tuple" =>
    ((try dsimp only); k_dflt (refine' tuple_atoms ?saF ?saN ?sae ?saH ?saz ?_ ?sak; (case saF => k_asm); (case sae => exact rfl); (case saN => k_asm); (case sak => exact rfl); (case saH => k_extra "atoms"); (case saz => kmk_size)); intro D' h' F' N' l1; (try k_lt l1); (try k_sweep))
  k_with "eval List" =>
    ((try dsimp only); k_dflt (refine' list_atoms ?saF ?saN ?sae ?saH ?saz ?_ ?sak; (case saF => k_asm); (case sae => exact rfl); (case saN => k_asm); (case sak => exact rfl); (case saH => k_extra "atoms"); (case saz => kmk_size); k_whole); intro l' h' F' N' l1; (try k_lt l1); (try k_sweep))
  k_with "eval Call" =>
    ((try dsimp only); k_dflt (refine' call_atoms ?saF ?saX ?saT ?saE ?sae ?sakp ?saH ?_ ?sax ?sad ?sas ?sap ?sak; (case saF => k_asm); (case saE => exact rfl); (case saX => k_asm); (case saT => k_asm); (case sax => exact rfl); (case sae => k_is); (case sakp => k_is); (case saH => k_extra "atoms"); (case sad => decide); (case sas => exact rfl); (case sap => exact rfl); (case sak => exact rfl); k_whole))
  k_with "eqNo" =>
    first | exact EqC.int_no (by decide) | exact EqC.str_no (by with_reducible assumption) | exact EqC.str_no (by decide +kernel) | exact EqC.int_no (by omega)
  k_with "eqYes" =>
    first | exact EqC.int_yes rfl | exact EqC.str_yes (by with_reducible assumption) | exact EqC.str_yes (by decide +kernel) | exact EqC.int_yes (by omega)
  k_with "exec If" =>
    ((with_reducible show wpAny _ _ (exec (Stmt.If (Expr.Compare (Expr.Name _ _) [CmpOp.Eq] [Expr.Constant _ _ _] _) _ _ _) _) _ _ _); k_dflt (first
      | (refine' if_no ?siF ?sie ?siv ?sin ?_ ?six ?sid ?sik; (case siF => k_asm); (case sie => exact rfl); (case siv => exact rfl); (case sin => k_extra "eqNo"); (case six => exact rfl); (case sid => decide); (case sik => exact rfl); k_whole)
      | (refine' if_yes ?siF ?sie ?siv ?sin ?_ ?six ?sid ?sik; (case siF => k_asm); (case sie => exact rfl); (case siv => exact rfl); (case sin => k_extra "eqYes"); (case six => exact rfl); (case sid => decide); (case sik => exact rfl); k_whole)))
  k_with "kat_tups" =>
    first | with_reducible_and_instances exact List.Mem.head _ | (refine List.Mem.tail _ ?_; kat_tups) | (refine List.mem_append.mpr (Or.inl ?_); kat_tups) | (refine List.mem_append.mpr (Or.inr ?_); kat_tups) | with_reducible assumption | with_reducible_and_instances exact hq | ((with_reducible show List.Mem _ _); with_reducible_and_instances assumption)
  k_with "top_args" =>
    first | exact List.forall_mem_nil _ | (refine List.forall_mem_cons.mpr (And.intro ?_ ?_); kat_tups; top_args) | (refine List.forall_mem_append.mpr (And.intro ?_ ?_); top_args; top_args) | (intro q hq; kat_tups)
  k_with "mem_news" =>
    first | ((with_reducible_and_instances (repeat (first | exact List.Mem.head _ | refine List.Mem.tail _ ?_))); done) | ((with_reducible show _ ∈ _); kat_tups) | ((try dsimp only [penL, booksL, mled, List.cons_append, List.nil_append]); top_args)
  k_with "ltD" =>
    first | with_reducible assumption | exact lt_l1 (by with_reducible assumption) (by kat_tups) | omega
  k_with "k_ne" =>
    (refine neN ?_; (try dsimp only); first | with_reducible assumption | with_reducible exact Ne.symm (by with_reducible assumption) | with_reducible exact Nat.ne_of_lt (by with_reducible assumption) | with_reducible exact Nat.ne_of_gt (by with_reducible assumption) | exact ne_l1 (by with_reducible assumption) (by kat_tups) | exact Ne.symm (ne_l1 (by with_reducible assumption) (by kat_tups)) | exact ne_l1s (by with_reducible assumption) (by kat_tups) | exact Ne.symm (ne_l1s (by with_reducible assumption) (by kat_tups)) | exact ne_lt2 (by with_reducible assumption) (by with_reducible assumption) (by kat_tups) | exact Ne.symm (ne_lt2 (by with_reducible assumption) (by with_reducible assumption) (by kat_tups)) | exact Anew.ne (by with_reducible assumption) (by kat_tups) | exact Ne.symm (Anew.ne (by with_reducible assumption) (by kat_tups)) | omega)
  k_with "k_all" =>
    first | exact List.forall_mem_nil _ | with_reducible assumption | exact tail_l1 (by with_reducible assumption) (by intro q hq; kat_tups) | (refine' List.forall_mem_cons.mpr ⟨?kaa, ?kab⟩; (case kaa => k_ne); (case kab => k_all))
  k_with "k_allIn" =>
    first | exact True.intro | with_reducible assumption | ((with_reducible refine AllNe.app ?_ ?_) <;> k_allIn) | (refine And.intro ?kah ?_; (case kah => k_memK); k_allIn)
  k_with "useC" =>
    (
      (case F => k_asm)
      (case N => k_asm)
      (case A => exact rfl)
      (case L => exact rfl)
      (case K => intro h9; cases h9)
      (case d => ktr_room)
      (case u => ktr_units)
      (case P => tb_start)
      (case ne => k_allIn))
  k_with "dipC" =>
    (
      (case ta => with_reducible assumption)
      (case tb => assumption)
      (case tc => assumption)
      k_extra "useC"
      (case tg => first | with_reducible assumption | omega)
      (case th => first | exact PB.lt6 (by with_reducible assumption) (by with_reducible assumption) (by decide) | exact PB.lt (by with_reducible assumption) (by with_reducible assumption) (by decide) | omega)
      (case ti => first | with_reducible assumption | omega))
  k_with "pbStep" =>
    (have hPB := PB.step (by with_reducible assumption) hp1)
  k_with "eval Tuple" =>
    ((try dsimp only); k_dflt (refine' tuple_atomsL ?saF ?saN ?sae ?saH ?saz ?_ ?sak; (case saF => k_asm); (case sae => exact rfl); (case saN => k_asm); (case sak => exact rfl); (case saH => k_extra "atoms"); (case saz => kmk_size)); intro D' h' nw' F' N' l1; (try k_lt l1); (try k_sweep))
  k_with "eval List" =>
    ((try dsimp only); k_dflt (refine' list_atomsL ?saF ?saN ?sae ?saH ?saz ?_ ?sak; (case saF => k_asm); (case sae => exact rfl); (case saN => k_asm); (case sak => exact rfl); (case saH => k_extra "atoms"); (case saz => kmk_size); k_whole); intro l' h' nw' F' N' l1; (try k_lt l1); (try k_sweep))
  k_with "newTuple" =>
    ((try dsimp only); k_dflt (refine' newTupleL ?F ?N ?_ ?z; (case F => k_asm); (case N => k_asm); (case z => kmk_size)); intro D' h' nw' F' N' l1; (try k_sweep))
  k_with "newList" =>
    ((try dsimp only); k_dflt (refine' newListL ?F ?N ?_ ?z; (case F => k_asm); (case N => k_asm); (case z => kmk_size)); intro D' h' nw' F' N' l1; (try k_sweep))
  k_with "storeName" =>
    ((try dsimp only); k_dflt (refine' storeL ?F ?N ?_ ?a ?b; (case F => k_asm); (case N => k_asm); (case a => exact rfl); (case b => exact rfl); k_whole); intro h' mm' F' N'; (try k_sweep))
  k_with "hasK" =>
    first | with_reducible assumption | exact Has.six | (refine' Has.cons ?_; k_extra "hasK")
  k_with "k_allIn" =>
    first | exact True.intro | with_reducible assumption | (refine' Has.allNe ?hhh ?hhl ?_; (case hhl => with_reducible assumption); (case hhh => k_extra "hasK"); k_allIn) | (refine' Has.allNe2 ?hhh ?hhl ?_; (case hhl => with_reducible assumption); (case hhh => k_extra "hasK"); k_allIn) | ((with_reducible refine AllNe.app ?_ ?_) <;> k_allIn) | (refine And.intro ?kah ?_; (case kah => k_memK); k_allIn)
  k_with "small" =>
    first | with_reducible assumption | omega
  k_with "call ref" =>
    (k_dflt (
      (with_reducible show wpAny _ _ (call (Value.ref 256) _) _ _ _)
      (refine' token_use ?uo ?us ?ul ?ux ?uk X T B' ?F ?N ?A ?L ?K ?d ?u ?P ?ne ?_)
      (case uo => assumption)
      (case ux => assumption)
      k_extra "useC"
      (case us => assumption)
      (case ul => k_extra "small")
      (case uk => first | assumption | exact hkp (by assumption))
      intro ts' te' h' tk' nw' hs' F' N'
      (try k_sweep)))
  k_with "call ref" =>
    (k_dflt (
      (with_reducible show wpAny _ _ (call (Value.ref 291) _) _ _ _)
      (refine' use_use ?uo ?us ?ul ?ux ?uk X T B' ?F ?N ?A ?L ?K ?d ?u ?P ?ne ?_)
      (case uo => assumption)
      (case ux => assumption)
      k_extra "useC"
      (case us => assumption)
      (case ul => k_extra "small")
      (case uk => first | assumption | exact hkp (by assumption))
      intro ts' te' h' tk' nw' hs' F' N'
      (try k_sweep)))
  k_with "call ref" =>
    (k_dflt (
      (with_reducible show wpAny _ _ (call (Value.ref 284) _) _ _ _)
      (refine' left_use ?uo ?us ?ul X T B' ?F ?N ?A ?L ?K ?d ?u ?P ?ne ?_)
      (case uo => assumption)
      k_extra "useC"
      (case us => assumption)
      (case ul => k_extra "small")
      intro ls' le' h' tk' nw' hs' F' N'
      (try k_sweep)))
  k_with "k_ne" =>
    (refine neN ?_; (try dsimp only); first | with_reducible assumption | with_reducible exact Ne.symm (by with_reducible assumption) | with_reducible exact Nat.ne_of_lt (by with_reducible assumption) | with_reducible exact Nat.ne_of_gt (by with_reducible assumption) | exact ne_l1 (by with_reducible assumption) (by kat_tups) | exact Ne.symm (ne_l1 (by with_reducible assumption) (by kat_tups)) | exact ne_mem (by with_reducible assumption) (by kat_tups) | exact Ne.symm (ne_mem (by with_reducible assumption) (by kat_tups)) | exact ne_l1s (by with_reducible assumption) (by kat_tups) | exact Ne.symm (ne_l1s (by with_reducible assumption) (by kat_tups)) | exact ne_lt2 (by with_reducible assumption) (by with_reducible assumption) (by kat_tups) | exact Ne.symm (ne_lt2 (by with_reducible assumption) (by with_reducible assumption) (by kat_tups)) | exact Anew.ne (by with_reducible assumption) (by kat_tups) | exact Ne.symm (Anew.ne (by with_reducible assumption) (by kat_tups)) | omega)
  k_with "k_all" =>
    first | exact List.forall_mem_nil _ | with_reducible assumption | exact tail_l1 (by with_reducible assumption) (by intro q hq; kat_tups) | exact AllNe.off (by with_reducible assumption) (by (repeat (first | exact List.Mem.head _ | refine List.Mem.tail _ ?_))) | (refine' List.forall_mem_cons.mpr ⟨?kaa, ?kab⟩; (case kaa => k_ne); (case kab => k_all)) | ((refine List.forall_mem_append.mpr (And.intro ?_ ?_)) <;> k_all)
  k_with "call builtin:len" =>
    ((with_reducible show wpAny _ _ (call (Value.builtin "len") [Value.ref _]) _ _ _); k_dflt (refine' len_L ?ll ?lz ?_; (case ll => (refine' isL ?lN ?lm; (case lN => k_asm); (case lm => mem_news))); (case lz => first | omega | (simp only [List.length_append, List.length_cons, List.length_nil]; omega)); k_whole))
  k_with "call ref" =>
    (k_dflt (
      (with_reducible show wpAny _ _ (call (Value.ref 298) _) _ _ _)
      (refine' mid_use ?uo ?us ?ul ?um ?un ?uq X T B' ?F ?N ?A ?L ?K ?d ?u ?P ?ne ?_)
      (case uo => assumption)
      k_extra "useC"
      (case us => assumption)
      (case ul => k_extra "small")
      (case um => k_extra "small")
      (case un => k_extra "small")
      (case uq => k_extra "small")
      intro t' ls' le' mct' x' de' nd' h' tk' nw' hs' hn' hd' hf' F' N'
      (try have hNr' := hf' _ (List.Mem.tail _ (List.Mem.head _)))
      (try k_sweep)))
  k_with "call ref" =>
    ((try dsimp only); k_dflt (
        (with_reducible show wpAny _ _ (call (Value.ref 224) _) _ _ _)
        (refine' draft_useL ?dpv ?dav X T B' ?F ?N X' ?A ?L ?K ?d ?u ?_)
        (case dpv => first | with_reducible assumption | exact OptS.none | exact OptS.some _ _)
        (case dav => first | with_reducible assumption | exact OptS.none | exact OptS.some _ _)
        (case F => k_asm)
        (case N => k_asm)
        (case A => exact rfl)
        (case L => exact rfl)
        (case K => intro h9; cases h9)
        (case d => ktr_room)
        (case u => ktr_units)
        intro x' d' kd1 kd2 kd3 kd4 kd5 kd6 h' tk' nw1' nw' F' N' l1 l2))
  k_with "eval Tuple" =>
    (k_fold; walk_at "eval Tuple")
  k_with "eval List" =>
    (k_fold; walk_at "eval List")
  k_with "eval BinOp" =>
    (k_fold; walk_at "eval BinOp")
  k_with "eval Call" =>
    (k_fold; walk_at "eval Call")
  k_with "eval Subscript" =>
    (k_fold; walk_at "eval Subscript")
  k_with "execs cons" =>
    (k_fold; walk_at "execs cons")
  k_with "exec If" =>
    (k_fold; walk_at "exec If")
  k_with "exec Assign" =>
    (k_fold; walk_at "exec Assign")
  k_with "exec Return some" =>
    (k_fold; walk_at "exec Return some")
  k_with "exec Expr" =>
    (k_fold; walk_at "exec Expr")
  k_with "ltSkip" => skip
  trivial
noncomputable def sides : List Str := [Str.ofString "left", Str.ofString "right", Str.ofString "nonassoc", Str.ofString "precedence"]
abbrev Lv := List (Str × (Int × Str))
noncomputable def keyIn (lv : Lv) (x : Str) : Bool := lv.any fun q => q.1 == x
noncomputable def nameBad (lv : Lv) (ns : List Str) (i : Nat) (x : Str) : Bool := kept x || keyIn lv x || (ns.take i).any fun y => y == x
noncomputable def LvOk (lv : Lv) (side : Str) (ns : List Str) : Prop := (sides.any fun y => y == side) = true ∧ ns ≠ [] ∧ ∀ i x, ns[i]? = some x → nameBad lv ns i x = false
noncomputable def LvOn (P : Mp) (kv : Str × Value) (q : Str × (Int × Str)) : Prop := kv.1 = q.1 ∧ ∃ a t1 t2, kv.2 = .ref a ∧ P a (tupO [.int q.2.1 t1, .str q.2.2 t2])
noncomputable def LvsOn (P : Mp) (kvs : List (Str × Value)) (lv : Lv) : Prop := All2 (LvOn P) kvs lv
theorem LvOn.mono {P P' : Mp} (m : ∀ a o, P a o → P' a o) {kv : Str × Value} {q : Str × (Int × Str)} : LvOn P kv q → LvOn P' kv q := fun ⟨e, a, t1, t2, e', h⟩ => ⟨e, a, t1, t2, e', m _ _ h⟩
theorem LvsOn.mono {P P' : Mp} (m : ∀ a o, P a o → P' a o) {kvs : List (Str × Value)} {lv : Lv} (h : LvsOn P kvs lv) : LvsOn P' kvs lv := All2.mono h fun _ _ => LvOn.mono m
theorem sides_in {prog : Program} {w : World} {A : Around} {E : Value → Shared → Prop} {s : Shared} {x : Str} {t : Tok} {Q : Value → Shared → Prop} (X : (frag.heap_1 w.params).In s.heap) (h : Q (.bool (!(sides.any fun y => y == x))) s) :
    wpAny (model prog w) A (compareOp .NotIn (.str x t) (.ref 186)) Q E s := by
  have h9 := X 186 _ (by k_dflt k_is)
  exact notin_tuple_strs ⟨_, h9, rfl, _, rfl⟩ (.cons _ _ (.cons _ _ (.cons _ _ (.cons _ _ .nil)))) h
theorem words_B18_b : True := by
  k_with "compareOp NotIn str ref" =>
    (k_dflt (refine' sides_in ?X ?_; (case X => exact Frag.In.keeps X' (Fr.keep (by k_asm)))))
  trivial
theorem mapE1 {α : Type} {a : Str} {f g : Str → α} (h : ∀ y, y ≠ a → f y = g y) : f = fun y => if y = a then f a else g y := by
  funext y
  by_cases h1 : y = a
  · rw [if_pos h1, h1]
  · rw [if_neg h1, h y h1]
theorem strs_at {vs : List Value} {ss : List Str} (h : StrsAre vs ss) : ∀ {i : Nat} {v : Value}, vs[i]? = some v → ∃ x t, v = .str x t ∧ ss[i]? = some x := by
  induction h with
  | nil => intro i v e; simp at e
  | cons x t _ ih =>
    intro i v e
    cases i with
    | zero => simp at e; subst e; exact ⟨_, _, rfl, rfl⟩
    | succ i => simp at e; obtain ⟨y, u, e', q⟩ := ih e; exact ⟨y, u, e', by simpa using q⟩
theorem lv_side {lv : Lv} {x : Str} {ns : List Str} (h : (sides.any fun y => y == x) = false) : ¬ LvOk lv x ns := fun q => by rw [q.1] at h; cases h
theorem lv_empty {lv : Lv} {x : Str} {ns : List Str} {vs : List Value} (hn : StrsAre vs ns) (h : (vs.length : Int) = 0) : ¬ LvOk lv x ns := fun q => q.2.1 (List.eq_nil_of_length_eq_zero (by rw [← hn.length]; omega))
theorem lv_at {lv : Lv} {x : Str} {ns : List Str} {i : Nat} {y : Str} (hi : ns[i]? = some y) (h : nameBad lv ns i y = true) : ¬ LvOk lv x ns := fun q => by rw [q.2.2 i y hi] at h; cases h
theorem nb_kept {lv : Lv} {ns : List Str} {i : Nat} {y : Str} (h : kept y = true) : nameBad lv ns i y = true := by simp only [nameBad, h, Bool.true_or]
theorem nb_key {lv : Lv} {ns : List Str} {i : Nat} {y : Str} (h : keyIn lv y = true) : nameBad lv ns i y = true := by simp only [nameBad, h, Bool.true_or, Bool.or_true]
theorem nb_twice {lv : Lv} {ns : List Str} {i : Nat} {y : Str} (h : ((ns.take i).any fun z => z == y) = true) : nameBad lv ns i y = true := by simp only [nameBad, h, Bool.or_true]
theorem nb_no {lv : Lv} {ns : List Str} {i : Nat} {y : Str} (h1 : kept y = false) (h2 : keyIn lv y = false) (h3 : ((ns.take i).any fun z => z == y) = false) : nameBad lv ns i y = false := by simp only [nameBad, h1, h2, h3, Bool.or_false]
theorem keyAt {lv : Lv} : ∀ {kvs : List (Str × Value)} (_ : kvs.map (·.1) = lv.map (·.1)) (x : Str), (valueAt kvs x).isSome = keyIn lv x := by
  induction lv with
  | nil => intro kvs h x; cases kvs with
    | nil => rfl
    | cons a r => simp at h
  | cons q lv ih =>
    intro kvs h x
    cases kvs with
    | nil => simp at h
    | cons a r =>
      simp only [List.map_cons, List.cons.injEq] at h
      have z := ih h.2 x
      simp only [valueAt, List.find?_cons, keyIn, List.any_cons] at z ⊢
      rw [h.1]
      by_cases e : q.1 = x
      · simp [e]
      · simp only [decide_eq_false e, beq_eq_false_iff_ne.mpr e, Bool.false_or]; exact z
theorem in_lv {prog : Program} {w : World} {A : Around} {E : Value → Shared → Prop} {s : Shared} {h₀ : Heap} {L d : Addr} {news : List (Addr × Obj)} {o : Obj} {kvs : List (Str × Value)} {lv : Lv} {x : Str} {t : Tok} {Q : Value → Shared → Prop}
    (N : News h₀ L s.heap news) (hp : (d, o) ∈ news) (hd : o.IsDictOf (_root_.PySem.strKind prog w) kvs) (hk : kvs.map (·.1) = lv.map (·.1)) (lo : (d == sysModules) = false) (h : Q (.bool (keyIn lv x)) { s with toks := s.toks + 1 }) :
    wpAny (model prog w) A (compareOp .In (.str x t) (.ref d)) Q E s := kda_in N hp hd lo isStr _ (keyAt hk x) h
theorem words_B18_c : True := by
  k_with "compareOp In str ref" =>
    (k_dflt (refine' in_lv ?lvN ?lvp ?lvd ?lvk ?lvo ?_; (case lvN => k_asm); (case lvp => mem_news); (case lvd => assumption); (case lvk => assumption); (case lvo => assumption)))
  k_with "nest_cls" =>
    exact lv_at hni (nb_kept hx9)
  trivial
theorem take_pick {vs : List Value} (y : Nat) : slicePick vs.toArray none (some (y : Int)) none = (vs.take y).toArray := by
  have e : sliceBounds none (some (y : Int)) none vs.toArray.size = (((0 : Nat) : Int), ((min y vs.toArray.size : Nat) : Int), 1) := by
    simp only [sliceBounds, Option.getD_none, show (1 : Int) > 0 by decide, if_true, if_neg (show ¬ ((y : Int) < 0) by omega)]
    congr 1
    congr 1
    omega
  rw [kmk_pick_nat _ e]
  show ((vs.drop 0).take (min y vs.toArray.size - 0)).toArray = _
  rw [List.drop_zero, Nat.sub_zero, List.size_toArray, kmk_take_min]
theorem in_slice {prog : Program} {w : World} {A : Around} {E : Value → Shared → Prop} {s : Shared} {h₀ : Heap} {L d : Addr} {news : List (Addr × Obj)} {vs : List Value} {ns : List Str} {i : Nat} {x : Str} {t : Tok} {Q : Value → Shared → Prop}
    (N : News h₀ L s.heap news) (hp : (d, ({ cls := .type "list", data := .seq (slicePick vs.toArray none (some (i : Int)) none) } : Obj)) ∈ news) (hn : StrsAre vs ns) (h : Q (.bool ((ns.take i).any fun y => y == x)) s) :
    wpAny (model prog w) A (compareOp .In (.str x t) (.ref d)) Q E s :=
  in_list_strs ⟨_, (N _ hp).1, rfl, _, by rw [take_pick]⟩ (hn.take' i) h
theorem words_B18_d : True := by
  k_with "compareOp In str ref" =>
    (k_dflt (refine' in_slice ?lsN ?lsp ?lsn ?_; (case lsN => k_asm); (case lsp => mem_news); (case lsn => assumption)))
  trivial
noncomputable def lvNew (c : Int) (side : Str) (ns : List Str) : Lv := ns.map fun x => (x, (c, side))
noncomputable def LevelPost (w : World) (m : MA) (lc : Int) (mc : Int) (mct : Tok) (st ex : Value) (ds : List Value) (de : Nat) (ls : List Value) (le : Nat) (kvs : List (Str × Value)) (ss : List Str) (side : Str) (ns : List Str) (v : Value) (n : List (Addr × Obj)) : Prop :=
  v = .none ∧ ∃ lct ts te lo kvs2 nd, n = mled w m (lc + 1) lct mc mct st ex ts te lo ds de ls le ++ nd ∧ StrsAre ts (ns.foldl addTok ss) ∧ lo.IsDictOf (_root_.PySem.strKind prg w) (kvs ++ kvs2) ∧ LvsOn (inl nd) kvs2 (lvNew (lc + 1) side ns) ∧ AllNe [m.x, m.d, m.t, m.lv, m.dr, m.lf] nd
theorem strs_at' {vs : List Value} {ns : List Str} {i : Nat} (hn : StrsAre vs ns) (hi : i < vs.length) : ∃ x t, vs[i]? = some (.str x t) ∧ ns[i]? = some x := by
  obtain ⟨x, t, e, h⟩ := strs_at hn (List.getElem?_eq_getElem hi)
  exact ⟨x, t, by rw [List.getElem?_eq_getElem hi, e], h⟩
theorem nb_next {lv : Lv} {ns : List Str} {i : Nat} {x : Str} (h : ∀ j x, j < i → ns[j]? = some x → nameBad lv ns j x = false) (hi : ns[i]? = some x) (b : nameBad lv ns i x = false) : ∀ j x, j < i + 1 → ns[j]? = some x → nameBad lv ns j x = false := fun j q hj e => by
  rcases Nat.lt_or_ge j i with h1 | h1
  · exact h j q h1 e
  · obtain rfl : j = i := by omega
    rw [hi] at e; cases e; exact b
theorem nb_kept' {lv : Lv} {ns : List Str} {i : Nat} {y : Str} (h : nameBad lv ns i y = false) : kept y = false := by simp only [nameBad, Bool.or_eq_false_iff] at h; exact h.1.1
theorem nb_key' {lv : Lv} {ns : List Str} {i : Nat} {y : Str} (h : nameBad lv ns i y = false) : keyIn lv y = false := by simp only [nameBad, Bool.or_eq_false_iff] at h; exact h.1.2
theorem nb_twice' {lv : Lv} {ns : List Str} {i : Nat} {y : Str} (h : nameBad lv ns i y = false) : ((ns.take i).any fun z => z == y) = false := by simp only [nameBad, Bool.or_eq_false_iff] at h; exact h.2
theorem words_B18_e : True := by
  k_with "setItem ref str" =>
    (k_dflt (refine' kda_set (knd := _root_.PySem.strKind _ _) ?ksF ?ksN ?ksU ?ksd (strKind_is _ _ _ _) ?ksz ?_; (case ksF => k_asm); (case ksN => k_asm); (case ksU => k_updF); (case ksd => k_asm); (case ksz => rw [sizeLine_eq]; omega)); intro h' o' F' N' hd'; (try dsimp only at N'))
  trivial
theorem stored_new {kvs : List (Str × Value)} {x : Str} {v : Value} (h : (kvs.any fun kv => kv.1 = x) = false) : stored kvs x v = kvs ++ [(x, v)] := by unfold stored; rw [if_neg (by rw [h]; exact Bool.false_ne_true)]
theorem any_keys {kvs : List (Str × Value)} {ys : List Str} (h : kvs.map (·.1) = ys) (x : Str) : (kvs.any fun kv => kv.1 = x) = ys.any fun y => y == x := by
  subst h
  rw [List.any_map]
  congr 1
theorem LvsOn.keys {P : Mp} {kvs : List (Str × Value)} {lv : Lv} (h : LvsOn P kvs lv) : kvs.map (·.1) = lv.map (·.1) := by
  induction h with
  | nil => rfl
  | cons r _ ih => rw [List.map_cons, List.map_cons, r.1, ih]
theorem take_more {α : Type} {l : List α} {i : Nat} {x : α} (h : l[i]? = some x) : l.take (i + 1) = l.take i ++ [x] := by rw [List.take_add_one, h]; rfl
theorem tok_len (l ss : List Str) : (l.foldl addTok ss).length ≤ ss.length + l.length := by
  induction l generalizing ss with
  | nil => simp
  | cons a r ih =>
    have : (addTok ss a).length ≤ ss.length + 1 := by unfold addTok; split <;> simp
    have := ih (addTok ss a)
    simp only [List.foldl_cons, List.length_cons]; omega
theorem lv_keys {lv : Lv} {x : Str} : (lv.map (·.1)).any (fun y => y == x) = keyIn lv x := by rw [List.any_map]; rfl
theorem lvNew_keys (c : Int) (side : Str) (ns : List Str) : (lvNew c side ns).map (·.1) = ns := by unfold lvNew; rw [List.map_map]; exact List.map_id' _
theorem rotL {α : Type} {a b c d e f i t : α} {nd : List α} : ∀ p ∈ i :: a :: b :: c :: d :: e :: f :: t :: nd, p ∈ t :: a :: b :: c :: d :: e :: f :: i :: nd := fun p h => keep_app (a := [t]) (swap_app (a := [i]) (b := [a, b, c, d, e, f])) p (swap_app (a := [i, a, b, c, d, e, f]) (b := [t]) p h)
theorem ne_six {m : MA} {I : Addr} {o1 o2 o3 o4 o5 o6 : Obj} {nd : List (Addr × Obj)} (h1 : m.x ≠ I) (h2 : m.d ≠ I) (h3 : m.t ≠ I) (h4 : m.lv ≠ I) (h5 : m.dr ≠ I) (h6 : m.lf ≠ I) (h : ∀ p ∈ nd, p.1 ≠ I) :
    ∀ p ∈ (m.x, o1) :: (m.d, o2) :: (m.t, o3) :: (m.lv, o4) :: (m.dr, o5) :: (m.lf, o6) :: nd, p.1 ≠ I := by
  intro p hp
  simp only [List.mem_cons] at hp
  rcases hp with rfl | rfl | rfl | rfl | rfl | rfl | hp
  all_goals first | assumption | exact h p hp
noncomputable def LvJ (w : World) (m : MA) (lc mc : Int) (mct : Tok) (st ex : Value) (ds : List Value) (de : Nat) (ls : List Value) (le : Nat) (kvs : List (Str × Value)) (ss : List Str) (side : Str) (ns : List Str) (a0 : Option Value) (bm : Str → Option Value) (i : Nat) (mm : Str → Option Value) (nx : List (Addr × Obj)) : Prop :=
  ∃ lct ts te lo kvs2 nd b0, nx = mled w m (lc + 1) lct mc mct st ex ts te lo ds de ls le ++ nd ∧ StrsAre ts ((ns.take i).foldl addTok ss) ∧ lo.IsDictOf (_root_.PySem.strKind prg w) (kvs ++ kvs2) ∧ LvsOn (inl nd) kvs2 (lvNew (lc + 1) side (ns.take i)) ∧ AllNe [m.x, m.d, m.t, m.lv, m.dr, m.lf] nd ∧
      mm = fun y => if y = Str.ofString "name" then b0 else if y = Str.ofString "at" then a0 else bm y
theorem LvJ.elim {w : World} {m : MA} {lc mc : Int} {mct : Tok} {st ex : Value} {ds : List Value} {de : Nat} {ls : List Value} {le : Nat} {kvs : List (Str × Value)} {ss : List Str} {side : Str} {ns : List Str} {a0 : Option Value} {bm mm : Str → Option Value} {i : Nat} {nx : List (Addr × Obj)} {g h : Heap} {L I : Addr} {oI : Obj}
    (H : LvJ w m lc mc mct st ex ds de ls le kvs ss side ns a0 bm i mm nx) (F : Fr g L h mm) (N : News g L h ((I, oI) :: nx)) (hnx : ∀ q ∈ nx, q.1 ≠ I) (hi : i < 100) (b1 : ss.length < 800) (b2 : kvs.length < 800) {P : Prop}
    (k : ∀ lct ts te lo kvs2 nd b0, let mp : Str → Option Value := fun y => if y = Str.ofString "name" then b0 else if y = Str.ofString "at" then a0 else bm y
      let nx' : List (Addr × Obj) := mledT w m (lc + 1) lct mc mct st ex ts te lo ds de ls le nd
      let nw : List (Addr × Obj) := (I, oI) :: nx'
      Fr g L h mp → News g L h nw → (∀ q ∈ nx', @Ne Nat q.1 I) → StrsAre ts ((ns.take i).foldl addTok ss) → lo.IsDictOf (_root_.PySem.strKind prg w) (kvs ++ kvs2) → LvsOn (inl nd) kvs2 (lvNew (lc + 1) side (ns.take i)) → AllNe [m.x, m.d, m.t, m.lv, m.dr, m.lf] nd → ts.length < 1000 → (kvs ++ kvs2).length < 1000 → P) : P := by
  obtain ⟨lct, ts, te, lo, kvs2, nd, b0, rfl, hT, hD, hLv, hAN, rfl⟩ := H
  have q1 := tok_len (ns.take i) ss
  have q2 := List.length_take_le i ns
  have q4 := hT.length
  have q5 := hLv.len
  have q6 : (lvNew (lc + 1) side (List.take i ns)).length = (List.take i ns).length := by unfold lvNew; rw [List.length_map]
  exact k lct ts te lo kvs2 nd b0 F N hnx hT hD hLv hAN (by omega) (by rw [List.length_append]; omega)
theorem lv_ne {vs : List Value} {ns : List Str} (hn : StrsAre vs ns) (h : (vs.length : Int) ≠ 0) : ns ≠ [] := fun e => h (by have z := hn.length; rw [e] at z; rw [z]; rfl)
theorem tail_lt {news nd : List (Addr × Obj)} {D : Addr} (l : ∀ p ∈ news, p.1 < D) (h : ∀ p ∈ nd, p ∈ news) : AllLt D nd := allLt_of fun p hp => l p (h p hp)
theorem lv_turn {w : World} {m : MA} {lc mc : Int} {lct mct t9 : Tok} {st ex : Value} {ts : List Value} {te : Nat} {lo : Obj} {ds : List Value} {de : Nat} {ls : List Value} {le : Nat} {kvs kvs2 : List (Str × Value)} {ss ns : List Str} {side x5 : Str} {lv : Lv} {a0 : Option Value} {bm mm : Str → Option Value}
    {g : Heap} {L I D : Addr} {oI : Obj} {s₁ : Shared} {h' : Heap} {tk i : Nat} {nd : List (Addr × Obj)}
    (F : Fr g L h' mm) (N : News g L h' ((D, tupO [.int (lc + 1) lct, .str side t9]) :: (m.x, instObj 335 m.d) :: (m.d, dictOf (attrs w m (lc + 1) lct mc mct st ex) 8) :: (m.t, W.listOf ts.toArray te) :: (m.lv, lo) :: (m.dr, W.listOf ds.toArray de) :: (m.lf, W.listOf ls.toArray le) :: (I, oI) :: nd))
    {lo0 : Obj} (hl1 : ∀ p ∈ mledT w m (lc + 1) lct mc mct st ex ts te lo0 ds de ls le ((I, oI) :: nd), p.1 < D) {q1 q2 q3 q4 q5 q6 : Obj} (hI : ∀ q ∈ (m.x, q1) :: (m.d, q2) :: (m.t, q3) :: (m.lv, q4) :: (m.dr, q5) :: (m.lf, q6) :: nd, @Ne Nat q.1 I) (hAN : AllNe [m.x, m.d, m.t, m.lv, m.dr, m.lf] nd)
    (hs : StrsAre ts (addTok ((ns.take i).foldl addTok ss) x5)) (hd : lo.IsDictOf (_root_.PySem.strKind prg w) (stored (kvs ++ kvs2) x5 (.ref D))) (hk : kvs.map (·.1) = lv.map (·.1)) (hL : LvsOn (inl nd) kvs2 (lvNew (lc + 1) side (ns.take i)))
    (hni : ns[i]? = some x5) (hb : nameBad lv ns i x5 = false) (hm : ∀ y, y ≠ Str.ofString "name" → mm y = if y = Str.ofString "at" then a0 else bm y) :
    TEnd g L (LvJ w m lc mc mct st ex ds de ls le kvs ss side ns a0 bm (i + 1)) I oI s₁ { s₁ with heap := h', toks := tk } := by
  have e1 := take_more hni
  obtain ⟨h1, h2, h3, h4, h5, h6, hnI⟩ : m.x ≠ I ∧ m.d ≠ I ∧ m.t ≠ I ∧ m.lv ≠ I ∧ m.dr ≠ I ∧ m.lf ≠ I ∧ ∀ p ∈ nd, p.1 ≠ I := by
    simp only [List.mem_cons, forall_eq_or_imp] at hI
    exact hI
  have l1 := hl1 _ (.head _)
  have l2 := hl1 _ (.tail _ (.head _))
  have l3 := hl1 _ (.tail _ (.tail _ (.head _)))
  have l4 := hl1 _ (.tail _ (.tail _ (.tail _ (.head _))))
  have l5 := hl1 _ (.tail _ (.tail _ (.tail _ (.tail _ (.head _)))))
  have l6 := hl1 _ (.tail _ (.tail _ (.tail _ (.tail _ (.tail _ (.head _))))))
  have l7 := hl1 _ (.tail _ (.tail _ (.tail _ (.tail _ (.tail _ (.tail _ (.head _)))))))
  have hD : ∀ {a : Addr}, @LT.lt Nat instLTNat a D → a ≠ D := fun h => Nat.ne_of_lt h
  have hnew : ((kvs ++ kvs2).any fun kv => kv.1 = x5) = false := by
    rw [List.any_append, any_keys hk, lv_keys, nb_key' hb, any_keys (hL.keys.trans (lvNew_keys ..)), nb_twice' hb]; rfl
  rw [stored_new hnew] at hd
  refine tEnd (nx' := mled w m (lc + 1) lct mc mct st ex ts te lo ds de ls le ++ ((D, tupO [.int (lc + 1) lct, .str side t9]) :: nd)) F (News.subl N rotL) (ne_six h1 h2 h3 h4 h5 h6 ?_) ⟨lct, ts, te, lo, kvs2 ++ [(x5, .ref D)], (D, tupO [.int (lc + 1) lct, .str side t9]) :: nd, _, rfl, ?_, ?_, ?_, ⟨?_, hAN⟩, mapE1 hm⟩
  · intro p hp
    rcases List.mem_cons.mp hp with rfl | hp
    · exact fun e => hD l7 e.symm
    · exact hnI p hp
  · rw [e1, List.foldl_append]; exact hs
  · rw [← List.append_assoc]; exact hd
  · rw [e1]
    unfold lvNew
    rw [List.map_append]
    exact All2.append (hL.mono fun _ _ h => .tail _ h) (.cons ⟨rfl, D, lct, t9, rfl, .head _⟩ .nil)
  · intro a ha
    simp only [List.mem_cons, List.not_mem_nil, or_false] at ha
    rcases ha with rfl | rfl | rfl | rfl | rfl | rfl
    all_goals exact hD (by assumption)
section
variable {w : World} {loose : List Str} {mean : ExcName → Option Value} {mg mb : Str → Option Value} {base : Heap}
variable {h : Heap} {m : MA} {lc : Int} {lct : Tok} {mc : Int} {mct : Tok} {st ex : Value} {ts : List Value} {te : Nat} {lo : Obj} {ds : List Value} {de : Nat} {ls : List Value} {le : Nat} {ss zs : List Str}
theorem level_any {x : Str} {t : Tok} {l : Addr} {vs : List Value} {ns : List Str} {kvs : List (Str × Value)} {lv : Lv} (o : m.Ok) (hlo : lo.IsDictOf (_root_.PySem.strKind prg w) kvs) (hlv : kvs.map (·.1) = lv.map (·.1)) (hsy : (m.lv == sysModules) = false) (hs : StrsAre ts ss) (hlp : ∀ g : Heap, (∀ b o, h.get? b = some o → b ∉ [m.x, m.d, m.t, m.lv, m.dr, m.lf] → g.get? b = some o) → g.IsList l vs.toArray) (hn : StrsAre vs ns) (hnl : ∀ x ∈ ns, x.length < 1000) (hvn : vs.length < 100) (hx : x.length < 1000) (hts : ts.length < 800) (hc0 : 0 ≤ lc) (hc1 : lc < 800) (hkz : kvs.length < 800) :
    FP base h (mled w m lc lct mc mct st ex ts te lo ds de ls le) → Spec w loose mean mg mb base 263 [.ref m.x, .str x t, .ref l] 7 h (mled w m lc lct mc mct st ex ts te lo ds de ls le)
      (fun v n => LevelPost w m lc mc mct st ex ds de ls le kvs ss x ns v n ∧ LvOk lv x ns) (¬ LvOk lv x ns) := by
  have o' := o
  refine o'.cps ?_
  intro a1 a2 a3 a4 a5 a6 a7 a8 a9 a10 a11 a12 a13 a14 a15
  have b1 : ss.length < 800 := by rw [← hs.length]; exact hts
  intro fp
  ktr_enter
  have hl' := hlp g' gk'
  clear hlp
  refine foldN N' ?_
  clear N'
  intro nw' N'
  k_steps
  all_goals try (
    refine geEnd (by k_asm) fun h' e t₀ dd tk' kp he0 he => ?_
    refine raise_out gk' (fun p hp => (fp p hp).1) B' (by k_asm) (by k_asm) kp he0 he rfl fun h2 fl => ?_
    exact err (by first | exact lv_side (by assumption) | exact lv_empty hn (by assumption)) e h2 tk' fl)
  refine loopR (fun i mm nx => nx = mled w m lc lct mc mct st ex ts te lo ds de ls le ∧ (∀ j x, j < i → ns[j]? = some x → nameBad lv ns j x = false) ∧ ∃ a0, mm = fun y => if y = Str.ofString "at" then a0 else List.lookup y [(Str.ofString "names", Value.ref l), (Str.ofString "side", Value.str x t), (Str.ofString "self", Value.ref m.x)]) (by exact rfl) R' (by omega) (by passes_own) (fun _ _ => rfl) F' N' ⟨rfl, fun j _ hj => absurd hj (Nat.not_lt_zero _), _, mapE1 fun _ _ => rfl⟩ ?turn ?done
  case turn =>
    intro i ti5 m1 nx h5 tk5 I oI hi hJ hnx F5 N5
    clear F' N' R'
    refine hideT fun Qt hQt => ?_
    obtain ⟨rfl, hpre, a0, rfl⟩ := hJ
    have hnI : ∀ q ∈ mled w m lc lct mc mct st ex ts te lo ds de ls le, @Ne Nat q.1 I := hnx
    refine foldN N5 ?_
    clear N5 hnx
    intro nw5 N5
    obtain ⟨x5, t5, hvi, hni⟩ := strs_at' hn hi
    have hl5 := hnl x5 (List.mem_of_getElem? hni)
    k_steps
    rotate_left 2
    · refine hQt _ _ ?_
      show TEnd _ _ _ _ _ _ _
      refine tEnd (nx' := mled w m lc lct mc mct st ex ts te lo ds de ls le) (by k_asm) ?_ hnI ?_
      boot_fact
      exact ⟨rfl, nb_next hpre hni (nb_no (by assumption) (by assumption) (by assumption)), _, mapE1 fun y hy => by simp +zetaDelta only [if_neg hy]⟩
    all_goals first
      | (refine geEnd (by k_asm) fun h' e t₀ dd tk' kp he0 he => ?_
         refine raise_out gk' (fun p hp => (fp p hp).1) B' (by k_asm) ?_ kp he0 he rfl fun h2 fl => ?_
         boot_fact
         exact err (lv_at hni (by first | exact nb_key (by assumption) | exact nb_twice (by assumption))) e h2 tk' fl)
  case done =>
    intro m1 nx h5 tk5 hJ F5 N5
    clear F' N' R'
    obtain ⟨rfl, hpre, a0, rfl⟩ := hJ
    refine foldN N5 ?_
    clear N5
    intro nw5 N5
    k_steps
    refine loopB (LvJ w m lc mc mct st ex ds de ls le kvs ss x ns a0 fun y => List.lookup y [(Str.ofString "names", Value.ref l), (Str.ofString "side", Value.str x t), (Str.ofString "self", Value.ref m.x)]) (by exact rfl) hl' (by passes_own) (.inl fun _ _ => rfl) (by k_asm) (by k_asm) ⟨_, ts, te, lo, [], [], _, by rw [List.append_nil], hs, by rw [List.append_nil]; exact hlo, .nil, True.intro, mapE1 fun _ _ => rfl⟩ ?turn2 ?done2
    case turn2 =>
      intro i v m1 nx h6 tk6 I oI hvi hJ hnx F6 N6
      refine hideT fun Qt hQt => ?_
      have hiv : i < vs.length := (List.getElem?_eq_some_iff.mp hvi).1
      refine LvJ.elim hJ F6 N6 hnx (Nat.lt_trans hiv hvn) b1 hkz ?_
      clear hJ F6 N6 hnx
      intro lct6 ts6 te6 lo6 kvs6 nd b0 mp nx6 nw6 F' N' hnI hT hD hLv hAN sz1 sz2
      obtain ⟨x5, t5, rfl, hni⟩ := strs_at hn hvi
      have hl5 := hnl x5 (List.mem_of_getElem? hni)
      have hbad := hpre i x5 hiv hni
      have hkp5 : kept x5 = false := nb_kept' hbad
      k_steps
      refine hQt _ _ ?_
      show TEnd _ _ _ _ _ _ _
      exact lv_turn (by k_asm) (by k_asm) (by with_reducible assumption) hnI hAN (by assumption) (by assumption) hlv hLv hni hbad (fun y hy => by simp +zetaDelta only [if_neg hy])
    case done2 =>
      intro m1 nx h6 tk6 hJ F6 N6
      obtain ⟨lct6, ts6, te6, lo6, kvs6, nd, b0, rfl, hT, hD, hLv, hAN, rfl⟩ := hJ
      simp only [mled, List.cons_append, List.nil_append] at N6
      k_steps
      have eT : ns.take vs.length = ns := by rw [hn.length, List.take_length]
      rw [eT] at hT hLv
      exact leaveC (by k_asm) (by k_asm) fun kp nw => ret _ _ _ _ kp nw ⟨⟨rfl, _, _, _, _, _, nd, rfl, hT, hD, hLv, hAN⟩, by assumption, lv_ne hn (by assumption), fun j y hj => hpre j y (by have := (List.getElem?_eq_some_iff.mp hj).1; have := hn.length; omega) hj⟩
end
theorem words_B19 : True := by
  k_with_none
  k_with "ktr_room" =>
    ((try simp only [depth_under_make, depth_under_kw, depth_in1, depth_deeper]); (try dsimp only [Ar]); omega)
  k_with "ktr_units" =>
    ((try simp only [units_in1, units_deeper, Around.mark_units]); (try dsimp only [Ar]); omega)
  k_with "ktr_enter" =>
    (
      intro frs dp un gd s R hs G hap hd hu ret err
      subst hs
      have X := G.X
      have T := G.T
      k_dflt (
        refine' enterP G _ ?k1 hap ?k3 ?k4 ?k5 ?k6 ?k8 ?k7 ?_ ?c2 ?c3 ?c4 ?c5
        (case k3 => k_is)
        (case k4 => k_is)
        (case k1 => assumption)
        (case k5 => omega)
        (case k6 => exact rfl)
        (case k8 => (refine' zr_of ?zra ?zrb; (case zra => (dsimp only [List.map_cons, List.map_nil]; try exact rfl)); (case zrb => first | exact zr1 | exact zr2 | exact zr3 | exact zr4 | exact zr5 | exact zr6 | exact zr7 | exact zr8)))
        (case k7 => exact locs rfl)
        (case c2 => exact rfl)
        (case c3 => exact rfl)
        (case c4 => exact rfl)
        (case c5 => decide)
        k_whole
        intro g' L' h' tk' gk' F' N' B' X' T'
        (try dsimp only [mled] at N')
        (try dsimp only)
        (try k_fold)))
  k_with "ktr_step" =>
    (
      intro frs dp un gd s R hs G hap hd hu ret err
      subst hs
      have X := G.X
      have T := G.T
      have Xs : (frag.heap_1 w.params).In s.heap := X.keeps G.st
      k_dflt (
        refine' enter G _ ?k1 hap ?k3 ?k4 ?k5 ?k6 ?k7 ?_ ?c2 ?c3 ?c4 ?c5
        (case k3 => k_is)
        (case k4 => k_is)
        (case k1 => assumption)
        (case k5 => omega)
        (case k6 => first | exact BindsTo.of_eq rfl | exact binds_K Xs rfl (by k_is) rfl rfl rfl)
        (case k7 => exact locs rfl)
        (case c2 => exact rfl)
        (case c3 => exact rfl)
        (case c4 => exact rfl)
        (case c5 => decide)
        k_whole
        intro g' L' h' gk' F' N' B' X' T'
        (try dsimp only [mled] at N')
        (try dsimp only)
        (try k_fold)))
  k_with "exec Raise some none" =>
    (k_dflt (refine' Raise_ge X T B' ?F X' T' ?d ?u ?a ?b ?c ?_; (case F => k_asm); (case d => ktr_room); (case u => ktr_units); (case a => exact rfl); (case b => exact rfl); (case c => exact rfl)))
  k_with "k_room" =>
    ktr_room
  k_with "call type:range" =>
    (k_dflt (refine' range1_rows ?F ?N ?_; (case F => k_asm); (case N => k_asm); intro h' tk' t1' u1' v1' R' F' N' kp'))
  k_with "exec For" =>
    (k_dflt (refine' For_own ?_ ?s; (case s => intro _; rfl)))
  k_with "ktr_rel" =>
    (
      (case F => k_asm)
      (case N => k_asm)
      (case A => exact rfl)
      (case L => exact rfl)
      (case K => intro h9; cases h9)
      (case d => ktr_room)
      (case u => ktr_units)
      (case e => intro h9; cases h9)
      intro h' tk' F' N'
      (try k_sweep))
  k_with "ktn_open" =>
    first | exact Rm.head | (apply Rm.tail; ktn_open)
  k_with "tb_start" =>
    first | exact Pick.nil | (refine' Pick.cons ?pka ?pkb; (case pka => ktn_open); (case pkb => tb_start))
  k_with "k_memK" =>
    first | exact ne0 | (refine ne1 ?x ?_; (case x => ((try dsimp only); omega)); k_memK)
  k_with "k_allIn" =>
    first | exact True.intro | (refine And.intro ?h ?_; (case h => k_memK); k_allIn)
  k_with "tb_rel" =>
    (
      (case F => k_asm)
      (case N => k_asm)
      (case A => exact rfl)
      (case L => exact rfl)
      (case K => intro h9; cases h9)
      (case d => ktr_room)
      (case u => ktr_units)
      (case e => intro h9; cases h9)
      (case P => tb_start)
      (case ne => k_allIn))
  k_with "compareOp In str ref" =>
    (k_dflt (refine' in_list_strs ?l ?i ?_; (case l => exact isL (by k_asm) (by k_mem)); (case i => assumption)))
  k_with "compareOp NotIn str ref" =>
    (k_dflt (refine' notin_list_strs ?l ?i ?_; (case l => exact isL (by k_asm) (by k_mem)); (case i => assumption)))
  k_with "call builtin:list.append" =>
    (k_dflt (refine' append_L ?k1 ?k2 ?k3 ?z ?_; (case k1 => k_asm); (case k2 => k_asm); (case k3 => k_upd); (case z => first | omega | (simp only [List.length_append, List.length_cons, List.length_nil]; omega)); k_whole); intro h' F' N'; (try k_sweep))
  k_with "call ref" =>
    (k_dflt (
      (first
      | (refine' use0 (is_kept ?a) X T B' ?F ?N ?A ?L ?K ?d ?u ?_ ?e; (case a => assumption))
      | (refine' use0 (is_literal ?a) X T B' ?F ?N ?A ?L ?K ?d ?u ?_ ?e; (case a => assumption))
      | (refine' use0 (check_name ?a ?b) X T B' ?F ?N ?A ?L ?K ?d ?u ?_ ?e; (case a => assumption); (case b => assumption)))
      ktr_rel))
  k_with "boot_fact" =>
    (refine' News.subl ?nwN ?nwS; (case nwN => k_asm); (case nwS => (intro p hp; repeat (first | with_reducible exact hp | with_reducible refine List.mem_cons_of_mem _ ?_))))
  k_with "mem_news" =>
    (with_reducible_and_instances (repeat (first | exact List.Mem.head _ | refine List.Mem.tail _ ?_)))
  k_with "call ref" =>
    (k_dflt (
      (with_reducible show wpAny _ _ (call (Value.ref 207) _) _ _ _)
      (refine' useX (check_name_any ?a) X T B' ?F ?N ?A ?L ?K ?d ?u ?_ ?e)
      (case a => assumption)
      (case F => k_asm)
      (case N => k_asm)
      (case A => exact rfl)
      (case L => exact rfl)
      (case K => intro h9; cases h9)
      (case d => ktr_room)
      (case u => ktr_units)
      (case e => intro hx9 e9 h9 tk9 fl9; refine pass_out gk' (fun p hp => (fp p hp).1) (by k_asm) ?_ fl9 fun h2 f2 => err ?_ _ _ _ f2; boot_fact; nest_cls)
      intro h' tk' F' N' hx'
      (try k_sweep)))
  k_with "kas_types" =>
    exact map4 (a := Str.ofString "text") (b := Str.ofString "kind") (c := Str.ofString "at") (d := Str.ofString "action") rfl rfl rfl rfl (fun y h1 h2 h3 h4 => by simp only [if_neg h1, if_neg h2, if_neg h3, if_neg h4])
  k_with "krn_off" =>
    (
      intro frs dp un gd s R hs G hap hd hu ret err
      subst hs
      have X := G.X
      have T := G.T
      have Xs : (frag.heap_1 w.params).In s.heap := X.keeps G.st
      k_dflt (
        refine' enterPd G _ ?k1 hap ?k3 ?k4 ?k5 ?k6 ?k8 ?k7 ?_ ?c2 ?c3 ?c4 ?c5
        (case k3 => k_is)
        (case k4 => k_is)
        (case k1 => assumption)
        (case k5 => omega)
        (case k6 => exact binds_K Xs rfl (by k_is) rfl rfl rfl)
        (case k8 => (refine' zr_of ?zra ?zrb; (case zra => (dsimp only [List.map_cons, List.map_nil]; try exact rfl)); (case zrb => first | exact zr1 | exact zr2 | exact zr3 | exact zr4 | exact zr5 | exact zr6 | exact zr7 | exact zr8)))
        (case k7 => exact locs rfl)
        (case c2 => exact rfl)
        (case c3 => exact rfl)
        (case c4 => exact rfl)
        (case c5 => decide)
        k_whole
        intro g' L' h' tk' gk' F' N' B' X' T'
        (try dsimp only [mled] at N')
        (try dsimp only)
        (try k_fold)))
  k_with "k_all" =>
    first | exact List.forall_mem_nil _ | with_reducible assumption | exact allLt_ne (by with_reducible assumption) | (refine' List.forall_mem_cons.mpr ⟨?a, ?b⟩; (case a => k_ne); (case b => k_all))
  k_with "k_allIn" =>
    first | exact True.intro | exact hAN | (refine And.intro ?h ?_; (case h => k_memK); k_allIn)
  k_with "call ref" =>
    (k_dflt (
      (with_reducible show wpAny _ _ (call (Value.ref 235) _) _ _ _)
      (refine' useX (check_rule_any ?a ?b ?c ?v ?ps ?po) X T B' ?F ?N ?A ?L ?K ?d ?u ?_ ?e)
      (case a => assumption)
      (case v => assumption)
      (case F => k_asm)
      (case N => k_asm)
      (case A => exact rfl)
      (case L => exact rfl)
      (case K => intro h9; cases h9)
      (case d => ktr_room)
      (case u => ktr_units)
      (case ps => assumption)
      (case po => assumption)
      (case b => exact IsList_Fr (by k_asm) (by assumption))
      (case c => exact PartsOn_Fr (by k_asm) (by assumption))
      (case e => intro hx9 e9 h9 tk9 fl9; first | (rw [hok] at hx9; cases hx9) | (refine pass_out gk' (fun p hp => (fp p hp).1) (by k_asm) ?_ fl9 fun h2 f2 => err ?_ _ _ _ f2; boot_fact; nest_cls))
      intro h' tk' F' N' hx'
      (try k_sweep)))
  k_with "call builtin:len" =>
    ((with_reducible show wpAny _ _ (call (Value.builtin "len") [Value.ref _]) _ _ _); k_dflt (refine' len_L ?l ?z ?_; (case l => first | exact IsList_Fr (by k_asm) (by with_reducible assumption) | exact isL (by k_asm) (by with_reducible k_mem)); (case z => first | omega | (simp only [List.length_append, List.length_cons, List.length_nil]; omega)); k_whole))
  k_with "subscriptTail Name Name ref int" =>
    (k_dflt (refine' item_B ?l ?i ?z ?_; (case l => exact IsList_Fr (by k_asm) (by assumption)); (case i => assumption); (case z => omega); k_whole))
  k_with "exec For Name Call cons nil" =>
    (k_dflt (refine' For_own ?_ ?s; (case s => intro _; rfl)))
  k_with "assign Tuple" =>
    (k_here; (with_reducible show wpAny _ _ (assign (Expr.Tuple _ _ _) _ (Value.ref _)) _ _ _); k_dflt (refine' unpackN_ ?F ?N ?T ?k1 ?k2 ?k3 ?_; (case F => k_asm); (case N => k_asm); (case T => exact IsTup_Fr (by k_asm) (by with_reducible assumption)); (case k1 => exact rfl); (case k2 => exact rfl); (case k3 => exact rfl)); intro h' F' N'; (try k_sweep))
  k_with "ltA" => skip
  trivial
/-- what a callee that catches keeps: all but its ledger and the frames' slots -/
noncomputable def KpT (fp : List Addr) (frs : List Env) (h h' : Heap) : Prop := ∀ b o, h.get? b = some o → b ∉ fp → b ∉ frs.filterMap (·.frame) → h'.get? b = some o
noncomputable def FrUp (frs : List Env) (h h' : Heap) : Prop := ∀ b o, h.get? b = some o → b ∈ frs.filterMap (·.frame) → ∃ sl, h'.get? b = some { o with slots := sl }
noncomputable def SpecT (w : World) (loose : List Str) (mean : ExcName → Option Value) (mg mb : Str → Option Value) (base : Heap)
    (f : Addr) (args : List Value) (k : Nat) (h : Heap) (fpo : List (Addr × Obj)) (Post : Value → List (Addr × Obj) → Prop) : Prop :=
  ∀ (frs : List Env) (dp un : Nat) (gd : Option (List Code)) (s : Shared) (R : Result → Shared → Prop), s.heap = h → Gd w loose mean mg mb base h frs → Off frs fpo → dp + k < recursionLimit → un + 8 * k < cLine →
    (∀ v h' tk' news', KpT (adr fpo) frs h h' → FrUp frs h h' → Nw (adr fpo) h h' news' → Post v news' → R (.ok (.ret v)) { s with heap := h', toks := tk' }) →
    codeAny (model prg w) (Ar dp un gd frs) (.call (.ref f) ⟨args, []⟩) R s
noncomputable def LeaveT (h : Heap) (frs : List Env) (fp : List Addr) (R : Result → Shared → Prop) (v : Value) (s' : Shared) : Prop :=
  ∃ g L' m' news', KpT fp frs h g ∧ FrUp frs h g ∧ Fr g L' s'.heap m' ∧ News g L' s'.heap news' ∧ (KpT fp frs h s'.heap → FrUp frs h s'.heap → Nw fp h s'.heap news' → R (.ok (.ret v)) s')
theorem leaveT {h g : Heap} {frs : List Env} {fp : List Addr} {R : Result → Shared → Prop} {v : Value} {s' : Shared} {L' : Addr} {m' : Str → Option Value} {news' : List (Addr × Obj)} (hk : KpT fp frs h g) (hf : FrUp frs h g) (F : Fr g L' s'.heap m') (N : News g L' s'.heap news')
    (k : KpT fp frs h s'.heap → FrUp frs h s'.heap → Nw fp h s'.heap news' → R (.ok (.ret v)) s') : LeaveT h frs fp R v s' := ⟨g, L', m', news', hk, hf, F, N, k⟩
theorem KpT.turn {fp : List Addr} {frs : List Env} {h g g' : Heap} (k : KpT fp frs h g) (T : KtsTurn (frs.filterMap (·.frame)) g g') : KpT fp frs h g' := fun b o e n1 n2 => T.other b o (k b o e n1 n2) n2
theorem FrUp.turn {frs : List Env} {h g g' : Heap} (k : FrUp frs h g) (T : KtsTurn (frs.filterMap (·.frame)) g g') : FrUp frs h g' := fun b o e hm => by
  obtain ⟨sl, e1⟩ := k b o e hm
  obtain ⟨sl', e2⟩ := T.frame b _ e1 hm
  exact ⟨sl', e2⟩
section
variable {w : World} {loose : List Str} {mean : ExcName → Option Value} {mg mb : Str → Option Value} {base : Heap}
theorem enterT {frs : List Env} {dp un : Nat} {gd : Option (List Code)} {s : Shared} {R : Result → Shared → Prop}
    {name qual : Str} {params : Arguments} {body : List Stmt} {scope : Scope} {dV kV doc pm cdv ct oc : Value} {an od : Option Addr} {osl : Array (Option Value)} {f : Addr} {args : List Value} {rs : List (Str × Value)}
    (G : Gd w loose mean mg mb base s.heap frs) (fpo : List (Addr × Obj)) (hfp : FP base s.heap fpo) (hap : Off frs fpo)
    (ho : (frag.heap_1 w.params).lookup f = some ⟨oc, od, .func (fnOf name qual params body scope dV kV doc pm an cdv ct), osl⟩) (hcd : codeIn (frag.heap_1 w.params) cdv qual = true) (hroom : dp < recursionLimit)
    (hbind : bindArgs (fnOf name qual params body scope dV kV doc pm an cdv ct) ⟨args, []⟩ = pure ((params.args.map (·.arg)).zip args)) (hr : ((params.args.map (·.arg)).zip args).reverse = rs) (hloc : ∀ y ∈ (params.args.map (·.arg)).zip args, scope.names.lookup y.1 = some .local)
    (h : ∀ g L' h₁ tk, (∀ b o, s.heap.get? b = some o → b ∉ adr fpo → g.get? b = some o) → KpT (adr fpo) frs s.heap g → FrUp frs s.heap g → Fr g L' h₁ (fun y => rs.lookup y) → News g L' h₁ fpo → Below (Ar dp un gd frs) base frs g → (frag.heap_1 w.params).In g → Top view loose mean mg mb g →
      wpAny (model prg w) ((Ar dp un gd frs).deeper (envOf qual scope L' f cdv)) (execs body (envOf qual scope L' f cdv))
        (fun fl s' => LeaveT s.heap frs (adr fpo) R (match fl with | .ret v => v | _ => .none) s')
        (fun e s' => wpAny (model prg w) ((Ar dp un gd frs).deeper (envOf qual scope L' f cdv)) (leaving (envOf qual scope L' f cdv) e) (fun _ s'' => R (.error e) s'') (fun e' s'' => R (.error e') s'') s')
        { s with heap := h₁, toks := tk })
    (hco : scope.isCoroutine = false) (hgen : scope.isGenerator = false) (hk : scope.kind = .function)
    (hcell : ∀ x ∈ scope.names, x.2 ≠ .cell) : codeAny (model prg w) (Ar dp un gd frs) (.call (.ref f) ⟨args, []⟩) R s := by
  have Xs := G.X.keeps G.st
  refine codeAny_call_def (fd := fnOf name qual params body scope dV kV doc pm an cdv ct) (body := body) (binds := (params.args.map (·.arg)).zip args) hroom (Xs _ _ ho) rfl (G.T.nolimit.keeps G.st) (codeRec_of Xs hcd) rfl (BindsTo.of_eq hbind) hcell hloc (fun h₁ hns hk₁ => ?_) hco hgen hk
  rw [hr] at hns
  have keep : ∀ b o, s.heap.get? b = some o → b ∉ adr fpo → (hideAll s.heap (adr fpo)).get? b = some o := fun b o e q => hideAll_get _ e q
  have nb : ∀ b o, base.get? b = some o → b ∉ adr fpo := fun b o e q => by
    obtain ⟨p, hp, rfl⟩ := List.mem_map.mp q
    rw [(hfp p hp).2] at e; cases e
  have st : base.StaysIn (hideAll s.heap (adr fpo)) := fun b o e => keep b o (G.st b o e) (nb b o e)
  have fl : (hideAll s.heap (adr fpo)).FunFrames base frs := funFrames_hideAll G.fr fun env he a ha hf => by
    obtain ⟨p, hp, rfl⟩ := List.mem_map.mp ha
    exact hap env he p hp hf
  have off : ∀ b ∈ frs.filterMap (·.frame), b ∉ adr fpo := fun b hb q => by
    obtain ⟨env, he, hf⟩ := List.mem_filterMap.mp hb
    obtain ⟨p, hp, rfl⟩ := List.mem_map.mp q
    exact hap env he p hp hf
  refine wpAny_mono (h (hideAll s.heap (adr fpo)) s.heap.objs.size h₁ _ keep (fun b o e q _ => keep b o e q) (fun b o e q => ⟨o.slots, keep b o e (off b q)⟩) ⟨hns, fun b o e => hk₁ b o (of_hideAll _ e), Nat.le_of_eq (hideAll_size _ _)⟩
    (fun p hp => ⟨hk₁ _ _ (hfp p hp).1, Nat.ne_of_lt (Heap.lt_size (hfp p hp).1), hideAll_none _ (List.mem_map_of_mem hp)⟩) ⟨rfl, st, fl⟩ (Frag.In.keeps G.X fun b o e => st b o e) (Top.keeps G.T fun b o e => st b o e)) (fun fl s' hl => ?_) fun _ _ y => y
  obtain ⟨g, L', m', news', hkp, hup, F', N', k⟩ := hl
  refine k (fun b o e q q' => F'.keep b o (hkp b o e q q')) (fun b o e q => ?_) fun p hp => ⟨(N' p hp).1, ?_⟩
  · obtain ⟨sl, e1⟩ := hup b o e q
    exact ⟨sl, F'.keep _ _ e1⟩
  · by_cases q : p.1 ∈ adr fpo
    · exact .inl q
    · refine .inr ?_
      cases e : s.heap.get? p.1 with
      | none => rfl
      | some o =>
        have z := (N' p hp).2.2
        by_cases q' : p.1 ∈ frs.filterMap (·.frame)
        · obtain ⟨sl, e1⟩ := hup _ o e q'
          rw [e1] at z; cases z
        · rw [hkp _ o e q q'] at z; cases z

theorem useT {f : Addr} {args : List Value} {k : Nat} {fpo : List (Addr × Obj)} {Post : Value → List (Addr × Obj) → Prop} {s : Shared}
    {A A₀ : Around} {env : Env} {g : Heap} {L : Addr} {m : Str → Option Value} {news rest : List (Addr × Obj)} {Q E : Value → Shared → Prop} {dp un : Nat} {gd : Option (List Code)}
    (Sp : FP base s.heap fpo → SpecT w loose mean mg mb base f args k s.heap fpo Post)
    (X : (frag.heap_1 w.params).In base) (T : Top view loose mean mg mb base) (B : Below A₀ base [] g) (F : Fr g L s.heap m) (N : News g L s.heap news)
    (hA : A = Ar dp un gd [env]) (hL : env.frame = some L) (hke : env.scope.kind ≠ .module) (hd : dp + k < recursionLimit) (hu : un + 8 * k < cLine)
    (P : Pick fpo news rest) (hne : AllNe (adr fpo) rest)
    (ret : ∀ v h' tk' news', Fr g L h' m → News g L h' (news' ++ rest) → (∀ p ∈ news', p.1 ∈ adr fpo ∨ ∀ q ∈ news, q.1 ≠ p.1) → Post v news' → Q v { s with heap := h', toks := tk' }) :
    wpAny (model prg w) A (call (.ref f) args) Q E s := by
  subst hA
  have hfp := P.subs.1
  have hrest : ∀ p ∈ rest, p ∈ news ∧ p.1 ∉ adr fpo := fun p hp => ⟨P.subs.2 p hp, hne.all p hp⟩
  have hnew : base.get? L = none := by
    cases hq : base.get? L with
    | none => rfl
    | some o => exact absurd (Nat.lt_of_lt_of_le (Heap.lt_size (B.stays L o hq)) F.above) (Nat.lt_irrefl _)
  have FF : s.heap.FunFrames base [env] := .cons hke hL F.ns hnew trivial
  have hin : ∀ p ∈ fpo, g.get? p.1 = none ∧ p.1 ≠ L := fun p hp => ⟨(N p (hfp p hp)).2.2, (N p (hfp p hp)).2.1⟩
  have hfr : ∀ b, b ∈ ([env] : List Env).filterMap (·.frame) → b = L := fun b hb => by
    obtain ⟨en, he, hf⟩ := List.mem_filterMap.mp hb
    rw [List.mem_singleton.mp he, hL] at hf
    exact (Option.some.inj hf).symm
  have hfL : L ∈ ([env] : List Env).filterMap (·.frame) := List.mem_filterMap.mpr ⟨env, .head _, hL⟩
  have hgL : ∀ {b o}, g.get? b = some o → b ≠ L := fun {b o} e q => absurd (Nat.lt_of_lt_of_le (Heap.lt_size e) F.above) (by rw [q]; exact Nat.lt_irrefl _)
  refine wpAny_call (Sp (fp_of B N P) [env] dp un gd s _ rfl ⟨X, T, fun b o e => F.keep b o (B.stays b o e), FF⟩ (fun en he p hp hq => ?_) hd hu (fun v h' tk' news' kp up nw po => ?_))
  · rw [List.mem_singleton.mp he, hL] at hq
    exact (hin p hp).2 (Option.some.inj hq).symm
  · obtain ⟨oL, es, ep, hoL, r⟩ := F.ns
    obtain ⟨sl, hoL'⟩ := up _ _ hoL hfL
    refine ret v h' tk' news' ⟨⟨_, es, ep, hoL', r⟩, fun b o e => kp b o (F.keep b o e) (fun q => ?_) (fun q => hgL e (hfr b q)), F.above⟩ (fun p hp => ?_) (fun p hp => ?_) po
    · obtain ⟨p, hp, rfl⟩ := List.mem_map.mp q
      rw [(hin p hp).1] at e; cases e
    · rcases List.mem_append.mp hp with hp | hp
      · refine ⟨(nw p hp).1, ?_⟩
        rcases (nw p hp).2 with q | q
        · obtain ⟨p', hp', e⟩ := List.mem_map.mp q
          rw [← e]; exact ⟨(hin p' hp').2, (hin p' hp').1⟩
        · refine ⟨fun e => ?_, ?_⟩
          · rw [e, hoL] at q; cases q
          · cases e : g.get? p.1 with
            | none => rfl
            | some o => rw [F.keep _ _ e] at q; cases q
      · obtain ⟨hn, hq⟩ := hrest p hp
        exact ⟨kp _ _ (N p hn).1 hq (fun q => (N p hn).2.1 (hfr _ q)), (N p hn).2⟩
    · rcases (nw p hp).2 with q | q
      · exact .inl q
      · refine .inr fun q' hq' e => ?_
        rw [← e, (N q' hq').1] at q; cases q

theorem caught_ge {A₀ : Around} {E : Value → Shared → Prop} {s' : Shared} {g G : Heap} {outer : List Env} {L a e : Addr} {m : Str → Option Value} {name : Str} {scope : Scope} {cd : Value}
    {b₀ : Stmt} {suite : List Stmt} {pos np : Pos} {rest : List ExceptHandler} {Q : Flow → Shared → Prop} {news : List (Addr × Obj)}
    (fl : Fly G (envOf name scope L a cd :: outer) e s'.heap) (F : Fr g L G m) (N : News g L G news) (K : Below A₀ base outer g) (XB : (frag.heap_1 w.params).In base) (TB : Top view loose mean mg mb base)
    (k : ∀ h' g', KtsTurn (outer.filterMap (·.frame)) g g' → Fr g' L h' m → News g' L h' news → Below A₀ base outer g' → (frag.heap_1 w.params).In g' → Top view loose mean mg mb g' →
      wpAny (model prg w) ((A₀.deeper (envOf name scope L a cd)).mark (some (.ref e))) (execs (b₀ :: suite) (envOf name scope L a cd)) Q E { s' with heap := h' })
    (hk : scope.kind = .function := by rfl) (hx : (envOf name scope L a cd).kindOf "GrammarError" = some .globalImplicit := by rfl)
    (hE : PassesOwnAt (model prg w) ((A₀.deeper (envOf name scope L a cd)).mark (some (.ref e))) (A₀.deeper (envOf name scope L a cd)) (envOf name scope L a cd) E := by passes_own) :
    wpAny (model prg w) (A₀.deeper (envOf name scope L a cd)) (noteFrame (.ref e) (envOf name scope L a cd))
      (fun _ s₂ => wpAny (model prg w) (A₀.deeper (envOf name scope L a cd)) (setFlight (.ref e) none) (fun _ s₃ =>
        wpAny (model prg w) (A₀.deeper (envOf name scope L a cd)) (handleBy (.ref e) (envOf name scope L a cd) (.ExceptHandler (some (.Name "GrammarError" np)) none (b₀ :: suite) pos :: rest)) Q E s₃) E s₂) E s' := by
  obtain ⟨⟨B, a0, hBG, hfl⟩, hsm⟩ := fl
  have hL : B.get? L = none := by
    obtain ⟨_, ⟨L', _, hf, hn', _⟩, _⟩ := hfl.2.2.1
    obtain rfl : L = L' := Option.some.inj hf
    exact hn'
  refine wpAny_looks_onW (Around.frames_deeper K.stack) rfl hfl fun h₄ hheld₄ hsm₄ => ?_
  refine wpAny_landsW hheld₄ fun h₅ hheld hsm₅' => ?_
  have hsm₅ := hsm₄.trans hsm₅'
  obtain ⟨g₅, T₅, F₅, K₅⟩ := kts_ground K F hBG hheld.1 (hsm.trans hsm₅)
  have X₅ : (frag.heap_1 w.params).In g₅ := XB.keeps K₅.stays
  have P₅ : TopRead view loose mg mb g₅ := topRead_of (TB.keeps K₅.stays)
  obtain ⟨ob, hob, hobc⟩ := hheld.there
  obtain ⟨nm, q, bs, sn, sub, ab, col, dd, k0, k1, k2, k3, k5, hC⟩ := cls59o (X₅.keeps F₅.keep)
  refine wpAny_handleBy_cons (codeAny_handlers_test (name_K F₅ X₅ P₅ (v := .ref 59) (by k_is) ?_ hk hx (by decide))) (by intro q; cases q)
  refine wpAny_excMatches_sub_self hC hob hobc (by decide) (codeAny_handlers_suite ?_)
  refine lands_againW hheld fun h₆ hfl₆ hsm₆ => ?_
  obtain ⟨g₆, T₆, F₆, K₆⟩ := kts_ground K F hBG hfl₆.1 ((hsm.trans hsm₅).trans hsm₆)
  have hnf : ∀ q ∈ news, q.1 ∉ (envOf name scope L a cd :: outer).filterMap (·.frame) := fun q hq hm => by
    rcases kts_mem hm with z | z
    · exact (N q hq).2.1 z
    · obtain ⟨_, o, ho, _⟩ := K.frames.mem z
      rw [(N q hq).2.2] at ho; cases ho
  have hl : ∀ q ∈ news, B.get? q.1 = some q.2 := fun q hq => hBG _ _ (N q hq).1 (hnf q hq)
  have Nl : News g₆ L h₆ news := fun q hq => ⟨hfl₆.1 _ _ (hl q hq), (N q hq).2.1, T₆.none_ _ (N q hq).2.2⟩
  exact wpAny_passesOwnAt hE (k h₆ g₆ T₆ F₆ Nl K₆ (XB.keeps K₆.stays) (TB.keeps K₆.stays))
end
/- the rules with the new ledger and the new names by a name of their own -/
theorem Rm.all {p : Addr × Obj} {l l' : List (Addr × Obj)} (h : Rm p l l') : ∀ q ∈ l, q = p ∨ q ∈ l' := by
  induction h with
  | head => exact fun q hq => List.mem_cons.mp hq
  | tail _ ih =>
    intro q hq
    rcases List.mem_cons.mp hq with rfl | hq
    · exact .inr (.head _)
    · exact (ih q hq).imp id fun z => .tail _ z
theorem Pick.all {f l r : List (Addr × Obj)} (h : Pick f l r) : ∀ q ∈ l, q ∈ f ∨ q ∈ r := by
  induction h with
  | nil => exact fun q hq => .inr hq
  | cons a b ih =>
    intro q hq
    rcases a.all q hq with rfl | hq
    · exact .inl (.head _)
    · exact (ih q hq).imp (fun z => .tail _ z) id
theorem keys2 {p c : Addr} {op oc op' oc' : Obj} {news rest : List (Addr × Obj)} (h : ∀ q ∈ news, q ∈ [(p, op), (c, oc)] ∨ q ∈ rest) : ∀ q ∈ news, ∃ o, (q.1, o) ∈ (p, op') :: (c, oc') :: rest := fun q hq => by
  rcases h q hq with z | z
  · rcases List.mem_cons.mp z with rfl | z
    · exact ⟨_, .head _⟩
    · rw [List.mem_singleton.mp z]; exact ⟨_, .tail _ (.head _)⟩
  · exact ⟨_, .tail _ (.tail _ z)⟩
theorem Has.pen {p c : Addr} {op oc : Obj} {r : List (Addr × Obj)} : Has [p, c] ((p, op) :: (c, oc) :: r) := .mk (.head _) (.mk (.tail _ (.head _)) .nil)
section
variable {w : World} {loose : List Str} {mean : ExcName → Option Value} {mg mb : Str → Option Value} {base : Heap}
variable {A A₀ : Around} {env : Env} {frs : List Env} {g : Heap} {L : Addr} {m : Str → Option Value} {news rest : List (Addr × Obj)} {Q E : Value → Shared → Prop} {dp un : Nat} {gd : Option (List Code)} {hp : Heap} {gn : Array GenState} {dr : Drawn} {tk : Nat} {os : OsState}
variable {p c : Addr} {e : Nat} {pos : Int} {pt : Tok} {res : Int} {rt : Tok} {cs : List Value} {xs : List Int} {n : Nat} {many most : Int} {mt : Tok}
theorem dip_useL (hcp : @LT.lt Nat instLTNat c p) (hi : IntsAre cs xs) (hn : cs.length < 100) (hm : 0 < many) (hm1 : many < 1000) (hp0 : 0 ≤ pos) (hp1 : pos < 1000000) (hr : 0 ≤ res)
    (X : (frag.heap_1 w.params).In base) (T : Top view loose mean mg mb base) (B : Below A₀ base frs g) (F : Fr g L hp m) (N : News g L hp news)
    (hA : A = Ar dp un gd (env :: frs)) (hL : env.frame = some L) (hke : env.scope.kind ≠ .module) (hd : dp + 2 < recursionLimit) (hu : un + 8 * 2 < cLine)
    (P : Pick (penL p c e pos pt res rt cs n) news rest) (hne : AllNe [p, c] rest)
    (ret : ∀ (r : Int) (t : Tok) (e' : Nat) (pos' : Int) (pt' : Tok) (res' : Int) (rt' : Tok) (h' : Heap) (tk' : Nat), let rs := rest; let nw : List (Addr × Obj) := (p, listOf [.ref c, .int pos' pt', .int res' rt'].toArray e') :: (c, listOf cs.toArray n) :: rs; AllNe [p, c] rs → (∀ q ∈ news, ∃ o, (q.1, o) ∈ nw) → 0 ≤ r → r < many → 0 ≤ pos' → pos' ≤ pos + 1 → 0 ≤ res' → Fr g L h' m → News g L h' nw → Q (.int r t) ⟨h', gn, dr, tk', os⟩) :
    wpAny (model prg w) A (call (.ref 351) [.ref p, .int many mt]) Q E ⟨hp, gn, dr, tk, os⟩ :=
  dip_use hcp hi hn hm hm1 hp0 hp1 hr X T B F N hA hL hke hd hu P hne fun r t e' pos' pt' res' rt' h' tk' => ret r t e' pos' pt' res' rt' h' tk' hne (keys2 P.all)
end
theorem item_any9 {w : World} {A : Around} {E : Value → Shared → Prop} {s : Shared} {g : Heap} {L l : Addr} {news : List (Addr × Obj)} {vs : List Value} {value slice : PySem.Expr} {r : Int} {u : Tok} {Q : Value → Shared → Prop} (N : News g L s.heap news) (hp : (l, ({ cls := .type "tuple", data := .seq vs.toArray } : Obj)) ∈ news)
    (h0 : 0 ≤ r) (h1 : r < vs.length) (hz : vs.length < 1000) (h : ∀ v, vs[r.toNat]? = some v → Q v s)
    (hs : subscripted slice false (.ref l) (.int r u) = operate [.ref l, .int r u] (getItem (.ref l) (.int r u)) := by with_unfolding_all rfl) :
    wpAny (model prg w) A (subscriptTail value slice (.ref l) (.int r u)) Q E s := by
  have hlt : r.toNat < vs.length := by omega
  have ht : IsTup s.heap l vs.toArray := ⟨_, (N _ hp).1, rfl, _, rfl⟩
  have hn : r < ((vs.toArray.size : Nat) : Int) := by rw [List.size_toArray]; exact h1
  have e : vs[r.toNat]? = some vs[r.toNat] := List.getElem?_eq_getElem hlt
  exact tail_any ht.typeIs slot_tuple_getitem.lookup (getItem_tuple ht (by omega) (by omega) (seqIndex_of h0 hn) (x := vs[r.toNat]) (by simpa using e) (h _ e)) hs
theorem item_any8 {w : World} {A : Around} {E : Value → Shared → Prop} {s : Shared} {g : Heap} {L l : Addr} {news : List (Addr × Obj)} {vs : List Value} {n : Nat} {value slice : PySem.Expr} {r : Int} {u : Tok} {Q : Value → Shared → Prop} (N : News g L s.heap news) (hp : (l, listOf vs.toArray n) ∈ news)
    (h0 : 0 ≤ r) (h1 : r < vs.length) (hz : vs.length < 1000) (h : ∀ v, vs[r.toNat]? = some v → Q v s)
    (hs : subscripted slice false (.ref l) (.int r u) = operate [.ref l, .int r u] (getItem (.ref l) (.int r u)) := by with_unfolding_all rfl) :
    wpAny (model prg w) A (subscriptTail value slice (.ref l) (.int r u)) Q E s := by
  have hlt : r.toNat < vs.length := by omega
  have e : vs[r.toNat]? = some vs[r.toNat] := List.getElem?_eq_getElem hlt
  exact tail_any (isL N hp).typeIs slot_list_getitem.lookup (wpAny_getItem_list (isL N hp) h0 (by omega) (x := vs[r.toNat]) (by simpa using e) (h _ e)) hs
theorem strs_in0 {vs : List Value} {ss : List Str} (h : StrsAre vs ss) {i : Nat} {v : Value} (e : vs[i]? = some v) : ∃ x t, v = .str x t ∧ x ∈ ss := by
  obtain ⟨x, t, a, c⟩ := strs_at h e
  exact ⟨x, t, a, List.mem_of_getElem? c⟩
/-- some str of a written tuple or list of strs -/
theorem item_strs {w : World} {A : Around} {E : Value → Shared → Prop} {s : Shared} {g : Heap} {L l : Addr} {news : List (Addr × Obj)} {vs : List Value} {ss : List Str} {value slice : PySem.Expr} {r m : Int} {u : Tok} {Q : Value → Shared → Prop} (N : News g L s.heap news) (hp : (l, ({ cls := .type "tuple", data := .seq vs.toArray } : Obj)) ∈ news)
    (S : StrsAre vs ss) (h0 : 0 ≤ r) (h1 : r < m) (hm : ((vs.length : Nat) : Int) = m) (hz : m < 1000) (h : ∀ y t, y ∈ ss → Q (.str y t) s)
    (hs : subscripted slice false (.ref l) (.int r u) = operate [.ref l, .int r u] (getItem (.ref l) (.int r u)) := by with_unfolding_all rfl) :
    wpAny (model prg w) A (subscriptTail value slice (.ref l) (.int r u)) Q E s := by
  subst hm
  refine item_any9 N hp h0 h1 (by omega) (fun v e => ?_) hs
  obtain ⟨y, t, rfl, hy⟩ := strs_in0 S e
  exact h y t hy
theorem item_strsL {w : World} {A : Around} {E : Value → Shared → Prop} {s : Shared} {g : Heap} {L l : Addr} {news : List (Addr × Obj)} {vs : List Value} {n : Nat} {ss : List Str} {value slice : PySem.Expr} {r : Int} {u : Tok} {Q : Value → Shared → Prop} (N : News g L s.heap news) (hp : (l, listOf vs.toArray n) ∈ news)
    (S : StrsAre vs ss) (h0 : 0 ≤ r) (h1 : r < vs.length) (hz : vs.length < 1000) (h : ∀ y t, y ∈ ss → Q (.str y t) s)
    (hs : subscripted slice false (.ref l) (.int r u) = operate [.ref l, .int r u] (getItem (.ref l) (.int r u)) := by with_unfolding_all rfl) :
    wpAny (model prg w) A (subscriptTail value slice (.ref l) (.int r u)) Q E s :=
  item_any8 N hp h0 h1 hz (fun v e => by
    obtain ⟨y, t, rfl, hy⟩ := strs_in0 S e
    exact h y t hy) hs
theorem item_xy {w : World} {A : Around} {E : Value → Shared → Prop} {hp : Heap} {gn : Array GenState} {dr : Drawn} {tk : Nat} {os : OsState} {value slice : PySem.Expr} {r : Int} {t u : Tok} {Q : Value → Shared → Prop} (h5 : 4 < r) (h7 : r < 7) (h : ∀ y, y ∈ [Str.ofString "x", Str.ofString "y"] → Q (.str y tk) ⟨hp, gn, dr, tk + 1, os⟩)
    (hs : subscripted slice false (.str "xy" t) (.int (r - 5) u) = operate [.str "xy" t, .int (r - 5) u] (getItem (.str "xy" t) (.int (r - 5) u)) := by with_unfolding_all rfl)
    (ht : ∀ r, letTemporaryGo value (.str "xy" t) r = pure () := by intro _; with_unfolding_all rfl) :
    wpAny (model prg w) A (subscriptTail value slice (.str "xy" t) (.int (r - 5) u)) Q E ⟨hp, gn, dr, tk, os⟩ := by
  have h56 : r = 5 ∨ r = 6 := by omega
  rcases h56 with rfl | rfl
  · exact item_str (by decide) (by decide) (by decide) (fun _ => h _ (by decide +kernel)) hs ht
  · exact item_str (by decide) (by decide) (by decide) (fun _ => h _ (by decide +kernel)) hs ht
theorem part_sym : ∀ y ∈ [Str.ofString "A", Str.ofString "s", Str.ofString "'+'", Str.ofString "t", Str.ofString "error"], (partBad (Str.ofString "sym", y) = false ∧ PyData.strOk y = true) ∧ (Str.ofString "sym").length < 1000 ∧ y.length < 1000 := by decide +kernel
theorem part_act : ∀ y ∈ [Str.ofString "x", Str.ofString "y"], (partBad (Str.ofString "act", y) = false ∧ PyData.strOk y = true) ∧ (Str.ofString "act").length < 1000 ∧ y.length < 1000 := by decide +kernel
theorem words_B20 : True := by
  k_with_none
  k_with "ktr_room" =>
    ((try simp only [depth_under_make, depth_under_kw, depth_in1, depth_deeper]); (try dsimp only [Ar]); omega)
  k_with "ktr_units" =>
    ((try simp only [units_in1, units_deeper, Around.mark_units]); (try dsimp only [Ar]); omega)
  k_with "ktr_enter" =>
    (
      intro frs dp un gd s R hs G hap hd hu ret err
      subst hs
      have X := G.X
      have T := G.T
      k_dflt (
        refine' enterP G _ ?k1 hap ?k3 ?k4 ?k5 ?k6 ?k8 ?k7 ?_ ?c2 ?c3 ?c4 ?c5
        (case k3 => k_is)
        (case k4 => k_is)
        (case k1 => assumption)
        (case k5 => omega)
        (case k6 => exact rfl)
        (case k8 => (refine' zr_of ?zra ?zrb; (case zra => (dsimp only [List.map_cons, List.map_nil]; try exact rfl)); (case zrb => first | exact zr1 | exact zr2 | exact zr3 | exact zr4 | exact zr5 | exact zr6 | exact zr7 | exact zr8)))
        (case k7 => exact locs rfl)
        (case c2 => exact rfl)
        (case c3 => exact rfl)
        (case c4 => exact rfl)
        (case c5 => decide)
        k_whole
        intro g' L' h' tk' gk' F' N' B' X' T'
        (try dsimp only [mled] at N')
        (try dsimp only)
        (try k_fold)))
  k_with "ktr_step" =>
    (
      intro frs dp un gd s R hs G hap hd hu ret err
      subst hs
      have X := G.X
      have T := G.T
      have Xs : (frag.heap_1 w.params).In s.heap := X.keeps G.st
      k_dflt (
        refine' enter G _ ?k1 hap ?k3 ?k4 ?k5 ?k6 ?k7 ?_ ?c2 ?c3 ?c4 ?c5
        (case k3 => k_is)
        (case k4 => k_is)
        (case k1 => assumption)
        (case k5 => omega)
        (case k6 => first | exact BindsTo.of_eq rfl | exact binds_K Xs rfl (by k_is) rfl rfl rfl)
        (case k7 => exact locs rfl)
        (case c2 => exact rfl)
        (case c3 => exact rfl)
        (case c4 => exact rfl)
        (case c5 => decide)
        k_whole
        intro g' L' h' gk' F' N' B' X' T'
        (try dsimp only [mled] at N')
        (try dsimp only)
        (try k_fold)))
  k_with "exec Raise some none" =>
    (k_dflt (refine' Raise_ge X T B' ?F X' T' ?d ?u ?a ?b ?c ?_; (case F => k_asm); (case d => ktr_room); (case u => ktr_units); (case a => exact rfl); (case b => exact rfl); (case c => exact rfl)))
  k_with "k_room" =>
    ktr_room
  k_with "call type:range" =>
    (k_dflt (refine' range1_rows ?F ?N ?_; (case F => k_asm); (case N => k_asm); intro h' tk' t1' u1' v1' R' F' N' kp'))
  k_with "exec For" =>
    (k_dflt (refine' For_own ?_ ?s; (case s => intro _; rfl)))
  k_with "ktr_rel" =>
    (
      (case F => k_asm)
      (case N => k_asm)
      (case A => exact rfl)
      (case L => exact rfl)
      (case K => intro h9; cases h9)
      (case d => ktr_room)
      (case u => ktr_units)
      (case e => intro h9; cases h9)
      intro h' tk' F' N'
      (try k_sweep))
  k_with "ktn_open" =>
    first | exact Rm.head | (apply Rm.tail; ktn_open)
  k_with "tb_start" =>
    first | exact Pick.nil | (refine' Pick.cons ?pka ?pkb; (case pka => ktn_open); (case pkb => tb_start))
  k_with "k_memK" =>
    first | exact ne0 | (refine ne1 ?x ?_; (case x => ((try dsimp only); omega)); k_memK)
  k_with "k_allIn" =>
    first | exact True.intro | (refine And.intro ?h ?_; (case h => k_memK); k_allIn)
  k_with "tb_rel" =>
    (
      (case F => k_asm)
      (case N => k_asm)
      (case A => exact rfl)
      (case L => exact rfl)
      (case K => intro h9; cases h9)
      (case d => ktr_room)
      (case u => ktr_units)
      (case e => intro h9; cases h9)
      (case P => tb_start)
      (case ne => k_allIn))
  k_with "compareOp In str ref" =>
    (k_dflt (refine' in_list_strs ?l ?i ?_; (case l => exact isL (by k_asm) (by k_mem)); (case i => assumption)))
  k_with "compareOp NotIn str ref" =>
    (k_dflt (refine' notin_list_strs ?l ?i ?_; (case l => exact isL (by k_asm) (by k_mem)); (case i => assumption)))
  k_with "call builtin:list.append" =>
    (k_dflt (refine' append_L ?k1 ?k2 ?k3 ?z ?_; (case k1 => k_asm); (case k2 => k_asm); (case k3 => k_upd); (case z => first | omega | (simp only [List.length_append, List.length_cons, List.length_nil]; omega)); k_whole); intro h' F' N'; (try k_sweep))
  k_with "call ref" =>
    (k_dflt (
      (first
      | (refine' use0 (is_kept ?a) X T B' ?F ?N ?A ?L ?K ?d ?u ?_ ?e; (case a => assumption))
      | (refine' use0 (is_literal ?a) X T B' ?F ?N ?A ?L ?K ?d ?u ?_ ?e; (case a => assumption))
      | (refine' use0 (check_name ?a ?b) X T B' ?F ?N ?A ?L ?K ?d ?u ?_ ?e; (case a => assumption); (case b => assumption)))
      ktr_rel))
  k_with "boot_fact" =>
    (refine' News.subl ?nwN ?nwS; (case nwN => k_asm); (case nwS => (intro p hp; repeat (first | with_reducible exact hp | with_reducible refine List.mem_cons_of_mem _ ?_))))
  k_with "mem_news" =>
    (with_reducible_and_instances (repeat (first | exact List.Mem.head _ | refine List.Mem.tail _ ?_)))
  k_with "call ref" =>
    (k_dflt (
      (with_reducible show wpAny _ _ (call (Value.ref 207) _) _ _ _)
      (refine' useX (check_name_any ?a) X T B' ?F ?N ?A ?L ?K ?d ?u ?_ ?e)
      (case a => assumption)
      (case F => k_asm)
      (case N => k_asm)
      (case A => exact rfl)
      (case L => exact rfl)
      (case K => intro h9; cases h9)
      (case d => ktr_room)
      (case u => ktr_units)
      (case e => intro hx9 e9 h9 tk9 fl9; refine pass_out gk' (fun p hp => (fp p hp).1) (by k_asm) ?_ fl9 fun h2 f2 => err ?_ _ _ _ f2; boot_fact; nest_cls)
      intro h' tk' F' N' hx'
      (try k_sweep)))
  k_with "kas_types" =>
    exact map4 (a := Str.ofString "text") (b := Str.ofString "kind") (c := Str.ofString "at") (d := Str.ofString "action") rfl rfl rfl rfl (fun y h1 h2 h3 h4 => by simp only [if_neg h1, if_neg h2, if_neg h3, if_neg h4])
  k_with "krn_off" =>
    (
      intro frs dp un gd s R hs G hap hd hu ret err
      subst hs
      have X := G.X
      have T := G.T
      have Xs : (frag.heap_1 w.params).In s.heap := X.keeps G.st
      k_dflt (
        refine' enterPd G _ ?k1 hap ?k3 ?k4 ?k5 ?k6 ?k8 ?k7 ?_ ?c2 ?c3 ?c4 ?c5
        (case k3 => k_is)
        (case k4 => k_is)
        (case k1 => assumption)
        (case k5 => omega)
        (case k6 => exact binds_K Xs rfl (by k_is) rfl rfl rfl)
        (case k8 => (refine' zr_of ?zra ?zrb; (case zra => (dsimp only [List.map_cons, List.map_nil]; try exact rfl)); (case zrb => first | exact zr1 | exact zr2 | exact zr3 | exact zr4 | exact zr5 | exact zr6 | exact zr7 | exact zr8)))
        (case k7 => exact locs rfl)
        (case c2 => exact rfl)
        (case c3 => exact rfl)
        (case c4 => exact rfl)
        (case c5 => decide)
        k_whole
        intro g' L' h' tk' gk' F' N' B' X' T'
        (try dsimp only [mled] at N')
        (try dsimp only)
        (try k_fold)))
  k_with "k_all" =>
    first | exact List.forall_mem_nil _ | with_reducible assumption | exact allLt_ne (by with_reducible assumption) | (refine' List.forall_mem_cons.mpr ⟨?a, ?b⟩; (case a => k_ne); (case b => k_all))
  k_with "k_allIn" =>
    first | exact True.intro | exact hAN | (refine And.intro ?h ?_; (case h => k_memK); k_allIn)
  k_with "call ref" =>
    (k_dflt (
      (with_reducible show wpAny _ _ (call (Value.ref 235) _) _ _ _)
      (refine' useX (check_rule_any ?a ?b ?c ?v ?ps ?po) X T B' ?F ?N ?A ?L ?K ?d ?u ?_ ?e)
      (case a => assumption)
      (case v => assumption)
      (case F => k_asm)
      (case N => k_asm)
      (case A => exact rfl)
      (case L => exact rfl)
      (case K => intro h9; cases h9)
      (case d => ktr_room)
      (case u => ktr_units)
      (case ps => assumption)
      (case po => assumption)
      (case b => exact IsList_Fr (by k_asm) (by assumption))
      (case c => exact PartsOn_Fr (by k_asm) (by assumption))
      (case e => intro hx9 e9 h9 tk9 fl9; first | (rw [hok] at hx9; cases hx9) | (refine pass_out gk' (fun p hp => (fp p hp).1) (by k_asm) ?_ fl9 fun h2 f2 => err ?_ _ _ _ f2; boot_fact; nest_cls))
      intro h' tk' F' N' hx'
      (try k_sweep)))
  k_with "call builtin:len" =>
    ((with_reducible show wpAny _ _ (call (Value.builtin "len") [Value.ref _]) _ _ _); k_dflt (refine' len_L ?l ?z ?_; (case l => first | exact IsList_Fr (by k_asm) (by with_reducible assumption) | exact isL (by k_asm) (by with_reducible k_mem)); (case z => first | omega | (simp only [List.length_append, List.length_cons, List.length_nil]; omega)); k_whole))
  k_with "subscriptTail Name Name ref int" =>
    (k_dflt (refine' item_B ?l ?i ?z ?_; (case l => exact IsList_Fr (by k_asm) (by assumption)); (case i => assumption); (case z => omega); k_whole))
  k_with "exec For Name Call cons nil" =>
    (k_dflt (refine' For_own ?_ ?s; (case s => intro _; rfl)))
  k_with "assign Tuple" =>
    (k_here; (with_reducible show wpAny _ _ (assign (Expr.Tuple _ _ _) _ (Value.ref _)) _ _ _); k_dflt (refine' unpackN_ ?F ?N ?T ?k1 ?k2 ?k3 ?_; (case F => k_asm); (case N => k_asm); (case T => exact IsTup_Fr (by k_asm) (by with_reducible assumption)); (case k1 => exact rfl); (case k2 => exact rfl); (case k3 => exact rfl)); intro h' F' N'; (try k_sweep))
  k_with "compareOp NotIn str ref" =>
    (k_dflt (refine' sides_in ?X ?_; (case X => exact Frag.In.keeps X' (Fr.keep (by k_asm)))))
  k_with "compareOp In str ref" =>
    (k_dflt (refine' in_lv ?lvN ?lvp ?lvd ?lvk ?lvo ?_; (case lvN => k_asm); (case lvp => mem_news); (case lvd => assumption); (case lvk => assumption); (case lvo => assumption)))
  k_with "compareOp In str ref" =>
    (k_dflt (refine' in_slice ?lsN ?lsp ?lsn ?_; (case lsN => k_asm); (case lsp => mem_news); (case lsn => assumption)))
  k_with "setItem ref str" =>
    (k_dflt (refine' kda_set (knd := _root_.PySem.strKind _ _) ?ksF ?ksN ?ksU ?ksd (strKind_is _ _ _ _) ?ksz ?_; (case ksF => k_asm); (case ksN => k_asm); (case ksU => k_updF); (case ksd => k_asm); (case ksz => rw [sizeLine_eq]; omega)); intro h' o' F' N' hd'; (try dsimp only at N'))
  k_with "tlg_ne" =>
    (
      intro frs dp un gd s R hs G hap hd hu ret
      subst hs
      have X := G.X
      have T := G.T
      k_dflt (
        refine' enterT G _ ?k1 hap ?k3 ?k4 ?k5 ?k6 ?k8 ?k7 ?_ ?c2 ?c3 ?c4 ?c5
        (case k3 => k_is)
        (case k4 => k_is)
        (case k1 => assumption)
        (case k5 => omega)
        (case k6 => exact rfl)
        (case k8 => (refine' zr_of ?zra ?zrb; (case zra => (dsimp only [List.map_cons, List.map_nil]; try exact rfl)); (case zrb => first | exact zr1 | exact zr2 | exact zr3 | exact zr4 | exact zr5 | exact zr6 | exact zr7 | exact zr8)))
        (case k7 => exact locs rfl)
        (case c2 => exact rfl)
        (case c3 => exact rfl)
        (case c4 => exact rfl)
        (case c5 => decide)
        k_whole
        intro g' L' h' tk' gk' hkT hfT F' N' B' X' T'
        (try dsimp only [mled] at N')
        (try dsimp only)
        (try k_fold)))
  k_with "k_ne" =>
    (refine neN ?_; (try dsimp only); first | with_reducible exact Nat.ne_of_lt (by with_reducible assumption) | with_reducible exact Nat.ne_of_gt (by with_reducible assumption) | with_reducible assumption | with_reducible exact Ne.symm (by with_reducible assumption) | omega)
  k_with "k_memK" =>
    first | exact ne0 | (refine ne1 ?kmx ?_; (case kmx => k_ne); k_memK)
  k_with "ktr_room" =>
    ((try simp only [depth_under_make, depth_under_kw, depth_in1, depth_deeper]); (try dsimp only [Ar]); first | exact room1 (by with_reducible assumption) (by decide) | exact room2 (by with_reducible assumption) (by decide) | omega)
  k_with "ktr_units" =>
    ((try simp only [units_in1, units_deeper, Around.mark_units]); (try dsimp only [Ar]); first | exact units1 (by with_reducible assumption) (by decide) | exact units2 (by with_reducible assumption) (by decide) | exact units3 (by with_reducible assumption) (by decide) | omega)
  k_with "atoms" =>
    first | exact Atoms.nil | (refine' Atoms.str ?amn; (case amn => k_extra "atoms")) | (refine' Atoms.int ?amn; (case amn => k_extra "atoms")) | (refine' Atoms.none ?amn; (case amn => k_extra "atoms")) | (refine' Atoms.name ?amv ?amx ?amd ?amn; (case amv => exact rfl); (case amx => exact rfl); (case amd => decide); (case amn => k_extra "atoms"))
  k_with "spliced" =>
    ((try dsimp only); k_dflt (refine' spliced_atoms ?saF ?sae ?saH ?_ ?sak; (case saF => k_asm); (case sae => exact rfl); (case sak => exact rfl); (case saH => k_extra "atoms"); k_whole))
  k_with "eval Tuple" =>
    ((try dsimp only); k_dflt (refine' tuple_atoms ?saF ?saN ?sae ?saH ?saz ?_ ?sak; (case saF => k_asm); (case sae => exact rfl); (case saN => k_asm); (case sak => exact rfl); (case saH => k_extra "atoms"); (case saz => kmk_size)); intro D' h' F' N' l1; (try k_lt l1); (try k_sweep))
  k_with "eval List" =>
    ((try dsimp only); k_dflt (refine' list_atoms ?saF ?saN ?sae ?saH ?saz ?_ ?sak; (case saF => k_asm); (case sae => exact rfl); (case saN => k_asm); (case sak => exact rfl); (case saH => k_extra "atoms"); (case saz => kmk_size); k_whole); intro l' h' F' N' l1; (try k_lt l1); (try k_sweep))
  k_with "eval Call" =>
    ((try dsimp only); k_dflt (refine' call_atoms ?saF ?saX ?saT ?saE ?sae ?sakp ?saH ?_ ?sax ?sad ?sas ?sap ?sak; (case saF => k_asm); (case saE => exact rfl); (case saX => k_asm); (case saT => k_asm); (case sax => exact rfl); (case sae => k_is); (case sakp => k_is); (case saH => k_extra "atoms"); (case sad => decide); (case sas => exact rfl); (case sap => exact rfl); (case sak => exact rfl); k_whole))
  k_with "eqNo" =>
    first | exact EqC.int_no (by decide) | exact EqC.str_no (by with_reducible assumption) | exact EqC.str_no (by decide +kernel) | exact EqC.int_no (by omega)
  k_with "eqYes" =>
    first | exact EqC.int_yes rfl | exact EqC.str_yes (by with_reducible assumption) | exact EqC.str_yes (by decide +kernel) | exact EqC.int_yes (by omega)
  k_with "exec If" =>
    ((with_reducible show wpAny _ _ (exec (Stmt.If (Expr.Compare (Expr.Name _ _) [CmpOp.Eq] [Expr.Constant _ _ _] _) _ _ _) _) _ _ _); k_dflt (first
      | (refine' if_no ?siF ?sie ?siv ?sin ?_ ?six ?sid ?sik; (case siF => k_asm); (case sie => exact rfl); (case siv => exact rfl); (case sin => k_extra "eqNo"); (case six => exact rfl); (case sid => decide); (case sik => exact rfl); k_whole)
      | (refine' if_yes ?siF ?sie ?siv ?sin ?_ ?six ?sid ?sik; (case siF => k_asm); (case sie => exact rfl); (case siv => exact rfl); (case sin => k_extra "eqYes"); (case six => exact rfl); (case sid => decide); (case sik => exact rfl); k_whole)))
  k_with "kat_tups" =>
    first | with_reducible_and_instances exact List.Mem.head _ | (refine List.Mem.tail _ ?_; kat_tups) | (refine List.mem_append.mpr (Or.inl ?_); kat_tups) | (refine List.mem_append.mpr (Or.inr ?_); kat_tups) | with_reducible assumption | with_reducible_and_instances exact hq | ((with_reducible show List.Mem _ _); with_reducible_and_instances assumption)
  k_with "top_args" =>
    first | exact List.forall_mem_nil _ | (refine List.forall_mem_cons.mpr (And.intro ?_ ?_); kat_tups; top_args) | (refine List.forall_mem_append.mpr (And.intro ?_ ?_); top_args; top_args) | (intro q hq; kat_tups)
  k_with "mem_news" =>
    first | ((with_reducible_and_instances (repeat (first | exact List.Mem.head _ | refine List.Mem.tail _ ?_))); done) | ((with_reducible show _ ∈ _); kat_tups) | ((try dsimp only [penL, booksL, mled, List.cons_append, List.nil_append]); top_args)
  k_with "ltD" =>
    first | with_reducible assumption | exact lt_l1 (by with_reducible assumption) (by kat_tups) | omega
  k_with "k_ne" =>
    (refine neN ?_; (try dsimp only); first | with_reducible assumption | with_reducible exact Ne.symm (by with_reducible assumption) | with_reducible exact Nat.ne_of_lt (by with_reducible assumption) | with_reducible exact Nat.ne_of_gt (by with_reducible assumption) | exact ne_l1 (by with_reducible assumption) (by kat_tups) | exact Ne.symm (ne_l1 (by with_reducible assumption) (by kat_tups)) | exact ne_l1s (by with_reducible assumption) (by kat_tups) | exact Ne.symm (ne_l1s (by with_reducible assumption) (by kat_tups)) | exact ne_lt2 (by with_reducible assumption) (by with_reducible assumption) (by kat_tups) | exact Ne.symm (ne_lt2 (by with_reducible assumption) (by with_reducible assumption) (by kat_tups)) | exact Anew.ne (by with_reducible assumption) (by kat_tups) | exact Ne.symm (Anew.ne (by with_reducible assumption) (by kat_tups)) | omega)
  k_with "k_all" =>
    first | exact List.forall_mem_nil _ | with_reducible assumption | exact tail_l1 (by with_reducible assumption) (by intro q hq; kat_tups) | (refine' List.forall_mem_cons.mpr ⟨?kaa, ?kab⟩; (case kaa => k_ne); (case kab => k_all))
  k_with "k_allIn" =>
    first | exact True.intro | with_reducible assumption | ((with_reducible refine AllNe.app ?_ ?_) <;> k_allIn) | (refine And.intro ?kah ?_; (case kah => k_memK); k_allIn)
  k_with "useC" =>
    (
      (case F => k_asm)
      (case N => k_asm)
      (case A => exact rfl)
      (case L => exact rfl)
      (case K => intro h9; cases h9)
      (case d => ktr_room)
      (case u => ktr_units)
      (case P => tb_start)
      (case ne => k_allIn))
  k_with "dipC" =>
    (
      (case ta => with_reducible assumption)
      (case tb => assumption)
      (case tc => assumption)
      k_extra "useC"
      (case tg => first | with_reducible assumption | omega)
      (case th => first | exact PB.lt6 (by with_reducible assumption) (by with_reducible assumption) (by decide) | exact PB.lt (by with_reducible assumption) (by with_reducible assumption) (by decide) | omega)
      (case ti => first | with_reducible assumption | omega))
  k_with "pbStep" =>
    (have hPB := PB.step (by with_reducible assumption) hp1)
  k_with "eval Tuple" =>
    (k_fold; walk_at "eval Tuple")
  k_with "eval List" =>
    (k_fold; walk_at "eval List")
  k_with "eval BinOp" =>
    (k_fold; walk_at "eval BinOp")
  k_with "eval Call" =>
    (k_fold; walk_at "eval Call")
  k_with "eval Subscript" =>
    (k_fold; walk_at "eval Subscript")
  k_with "execs cons" =>
    (k_fold; walk_at "execs cons")
  k_with "exec If" =>
    (k_fold; walk_at "exec If")
  k_with "exec Assign" =>
    (k_fold; walk_at "exec Assign")
  k_with "exec Return some" =>
    (k_fold; walk_at "exec Return some")
  k_with "exec Expr" =>
    (k_fold; walk_at "exec Expr")
  k_with "ltSkip" => skip
  trivial
/-- a maker, in the mind -/
structure MS where
  ts : List Str
  lv : Lv
  lc : Int
  ds : List DraftD
  ls : List Str
  mc : Int
  st : Option Str
  ex : Option Int
inductive OptI : Value → Option Int → Prop
  | none : OptI .none none
  | some (x : Int) (t : Tok) : OptI (.int x t) (some x)
inductive Cal where
  | level (side : Str) (ns : List Str)
  | token (x : Str)
  | start (x : Str)
  | expect (n : Int)
  | rule (x : Str) (ps : List Part) (po : Option Str)
inductive MkL (w : World) (m : MA) (S : MS) (P : Mp) (led : List (Addr × Obj)) : Prop
  | mk (lct mct st ex ts te lo ds de ls le kvs) : (led = mled w m S.lc lct S.mc mct st ex ts te lo ds de ls le) → (StrsAre ts S.ts) → (StrsAre ls S.ls) → (OptS st S.st) → (OptI ex S.ex) → (lo.IsDictOf (_root_.PySem.strKind prg w) kvs) → (LvsOn P kvs S.lv) → (All2 (DraftOn w P) ds S.ds) → MkL w m S P led
noncomputable def calOk (S : MS) : Cal → Prop
  | .level side ns => LvOk S.lv side ns
  | .token x => kept x = false
  | .start x => S.st = none ∧ kept x = false
  | .expect _ => S.ex = none
  | .rule x ps po => crOk x ps po = true
noncomputable def calDo (S : MS) : Cal → MS
  | .level side ns => { S with lc := S.lc + 1, ts := ns.foldl addTok S.ts, lv := S.lv ++ lvNew (S.lc + 1) side ns }
  | .token x => { S with ts := addTok S.ts x }
  | .start x => { S with st := some x }
  | .expect n => { S with ex := some n }
  | .rule x ps po => { S with ts := (ruleEnd x ps po 4 S.ts S.ls S.mc).ts, ls := (ruleEnd x ps po 4 S.ts S.ls S.mc).ls, mc := (ruleEnd x ps po 4 S.ts S.ls S.mc).mc, ds := S.ds ++ (ruleEnd x ps po 4 S.ts S.ls S.mc).ds }
noncomputable def CallOn (P : Mp) (v : Value) : Cal → Prop
  | .level side ns => ∃ a b l t1 t2 vs e, v = .ref a ∧ P a (tupO [.str "level" t1, .ref b]) ∧ P b (tupO [.str side t2, .ref l]) ∧ P l (listOf (vs : List Value).toArray e) ∧ StrsAre vs ns
  | .token x => ∃ a t1 t2, v = .ref a ∧ P a (tupO [.str "token" t1, .str x t2])
  | .start x => ∃ a t1 t2, v = .ref a ∧ P a (tupO [.str "start" t1, .str x t2])
  | .expect n => ∃ a t1 t2, v = .ref a ∧ P a (tupO [.str "expect" t1, .int n t2])
  | .rule x ps po => ∃ a b l t1 t2 vs e pv, v = .ref a ∧ P a (tupO [.str "rule" t1, .ref b]) ∧ P b (tupO [.str x t2, .ref l, pv]) ∧ P l (listOf (vs : List Value).toArray e) ∧ PartsOn P vs ps ∧ OptS pv po
noncomputable def calFits : Cal → Prop
  | .level side ns => side.length < 1000 ∧ (∀ x ∈ ns, x.length < 1000) ∧ ns.length < 100
  | .token x => x.length < 1000
  | .start x => x.length < 1000
  | .expect _ => True
  | .rule x ps po => x.length < 1000 ∧ (∀ (i : Nat) (p : Part), ps[i]? = some p → p.1.length < 1000 ∧ p.2.length < 1000) ∧ (∀ y, po = some y → y.length < 1000) ∧ ps.length < 100
structure MFit (S : MS) : Prop where
  ts : S.ts.length < 800
  lv : S.lv.length < 800
  ds : S.ds.length < 800
  ls : S.ls.length < 800
  c0 : 0 ≤ S.lc
  c1 : S.lc < 800
  m0 : 0 ≤ S.mc
  m1 : S.mc < 800
/-- what a call of _law_is_let gives -/
noncomputable def LetPost (w : World) (m : MA) (S : MS) (P : Mp) (c : Cal) (v : Value) (n : List (Addr × Obj)) : Prop :=
  (calOk S c ∧ v = .bool true ∧ ∃ led nd, n = led ++ nd ∧ MkL w m (calDo S c) (fun a o => P a o ∨ (a, o) ∈ nd) led ∧ AllNe [m.x, m.d, m.t, m.lv, m.dr, m.lf] nd) ∨ (¬ calOk S c ∧ v = .bool false ∧ MkL w m S P n)
theorem keeps_six {g h : Heap} {L : Addr} {mm : Str → Option Value} {fp : List Addr} (F : Fr g L h mm) (h6 : ∀ a ∈ fp, g.get? a = none) :
    ∀ g2 : Heap, (∀ b o, h.get? b = some o → b ∉ fp → g2.get? b = some o) → ∀ b o, g.get? b = some o → g2.get? b = some o := fun g2 k b o e => k b o (F.keep b o e) (fun hm => by rw [h6 b hm] at e; cases e)
theorem six_none {g h : Heap} {L : Addr} {m : MA} {o1 o2 o3 o4 o5 o6 : Obj} (N : News g L h [(m.x, o1), (m.d, o2), (m.t, o3), (m.lv, o4), (m.dr, o5), (m.lf, o6)]) : ∀ a ∈ [m.x, m.d, m.t, m.lv, m.dr, m.lf], g.get? a = none := by
  intro a ha
  simp only [List.mem_cons, List.not_mem_nil, or_false] at ha
  rcases ha with rfl | rfl | rfl | rfl | rfl | rfl
  · exact (N _ (.head _)).2.2
  · exact (N _ (.tail _ (.head _))).2.2
  · exact (N _ (.tail _ (.tail _ (.head _)))).2.2
  · exact (N _ (.tail _ (.tail _ (.tail _ (.head _))))).2.2
  · exact (N _ (.tail _ (.tail _ (.tail _ (.tail _ (.head _)))))).2.2
  · exact (N _ (.tail _ (.tail _ (.tail _ (.tail _ (.tail _ (.head _))))))).2.2
section
variable {w : World} {loose : List Str} {mean : ExcName → Option Value} {mg mb : Str → Option Value} {base : Heap}
variable {h : Heap} {m : MA} {S : MS} {P : Mp} {led : List (Addr × Obj)}
theorem token_any {lc : Int} {lct : Tok} {mc : Int} {mct : Tok} {st ex : Value} {ts : List Value} {te : Nat} {lo : Obj} {ds : List Value} {de : Nat} {ls : List Value} {le : Nat} {ss : List Str} {x : Str} {t : Tok} (o : m.Ok) (hs : StrsAre ts ss) (hl : ts.length < 1000) (hx : x.length < 1000) :
    FP base h (mled w m lc lct mc mct st ex ts te lo ds de ls le) → Spec w loose mean mg mb base 256 [.ref m.x, .str x t] 6 h (mled w m lc lct mc mct st ex ts te lo ds de ls le)
      (fun v n => v = .none ∧ kept x = false ∧ ∃ ts' te', n = mled w m lc lct mc mct st ex ts' te' lo ds de ls le ∧ StrsAre ts' (addTok ss x)) (kept x = true) := by
  intro fp frs dp un gd s R hs' G hap hd hu ret err
  cases hk : kept x with
  | false => exact token_ok o hs hl hx hk fp frs dp un gd s R hs' G hap (by omega) (by omega) (fun v h' tk' n kp nw po => ret v h' tk' n kp nw ⟨po.1, hk, po.2⟩) (fun f => f.elim)
  | true => exact token_bad o hx hk fp frs dp un gd s R hs' G hap hd hu (fun _ _ _ _ _ _ f => f.elim) (fun _ => err hk)
theorem start_any {lc : Int} {lct : Tok} {mc : Int} {mct : Tok} {st ex : Value} {so : Option Str} {ts : List Value} {te : Nat} {lo : Obj} {ds : List Value} {de : Nat} {ls : List Value} {le : Nat} {x : Str} {t : Tok} (o : m.Ok) (hst : OptS st so) (hx : x.length < 1000) :
    FP base h (mled w m lc lct mc mct st ex ts te lo ds de ls le) → Spec w loose mean mg mb base 270 [.ref m.x, .str x t] 6 h (mled w m lc lct mc mct st ex ts te lo ds de ls le)
      (fun v n => v = .none ∧ (so = none ∧ kept x = false) ∧ n = mled w m lc lct mc mct (.str x t) ex ts te lo ds de ls le) (¬ (so = none ∧ kept x = false)) := by
  intro fp frs dp un gd s R hs' G hap hd hu ret err
  cases hst with
  | none =>
    cases hk : kept x with
    | false => exact set_start_ok o hx hk fp frs dp un gd s R hs' G hap (by omega) (by omega) (fun v h' tk' n kp nw po => ret v h' tk' n kp nw ⟨po.1, ⟨rfl, hk⟩, po.2⟩) (fun f => f.elim)
    | true => exact set_start_bad2 o hx hk fp frs dp un gd s R hs' G hap hd hu (fun _ _ _ _ _ _ f => f.elim) (fun _ => err fun q => by rw [hk] at q; cases q.2)
  | some y t' => exact set_start_bad o fp frs dp un gd s R hs' G hap hd hu (fun _ _ _ _ _ _ f => f.elim) (fun _ => err fun q => by cases q.1)
theorem expect_any {lc : Int} {lct : Tok} {mc : Int} {mct : Tok} {st ex : Value} {eo : Option Int} {ts : List Value} {te : Nat} {lo : Obj} {ds : List Value} {de : Nat} {ls : List Value} {le : Nat} {x : Int} {t : Tok} (o : m.Ok) (hex : OptI ex eo) :
    FP base h (mled w m lc lct mc mct st ex ts te lo ds de ls le) → Spec w loose mean mg mb base 277 [.ref m.x, .int x t] 6 h (mled w m lc lct mc mct st ex ts te lo ds de ls le)
      (fun v n => v = .none ∧ eo = none ∧ n = mled w m lc lct mc mct st (.int x t) ts te lo ds de ls le) (¬ eo = none) := by
  intro fp frs dp un gd s R hs' G hap hd hu ret err
  cases hex with
  | none => exact set_expect_ok o fp frs dp un gd s R hs' G hap (by omega) (by omega) (fun v h' tk' n kp nw po => ret v h' tk' n kp nw ⟨po.1, rfl, po.2⟩) (fun f => f.elim)
  | some y t' => exact set_expect_bad o fp frs dp un gd s R hs' G hap hd hu (fun _ _ _ _ _ _ f => f.elim) (fun _ => err fun q => by cases q)
theorem rule_any {lc : Int} {lct : Tok} {mc : Int} {mct : Tok} {st ex : Value} {ts : List Value} {te : Nat} {lo : Obj} {ds : List Value} {de : Nat} {ls : List Value} {le : Nat} {ss zs : List Str} {x : Str} {t tl : Tok} {ln : Int} {l : Addr} {vs : List Value} {ps : List Part} {pv : Value} {po : Option Str} (o : m.Ok) (hs : StrsAre ts ss) (hz : StrsAre ls zs)
    (hx : x.length < 1000) (hlp : ∀ g : Heap, (∀ b o, h.get? b = some o → b ∉ [m.x, m.d, m.t, m.lv, m.dr, m.lf] → g.get? b = some o) → g.IsList l vs.toArray ∧ PartsOn (inh g) vs ps) (hv : OptS pv po) (hps : ∀ (i : Nat) (p : Part), ps[i]? = some p → p.1.length < 1000 ∧ p.2.length < 1000) (hpo : ∀ y, po = some y → y.length < 1000)
    (hts : ts.length < 800) (hls : ls.length < 800) (hds : ds.length < 800) (hpn : ps.length < 100) (hm0 : 0 ≤ mc) (hm1 : mc < 800) :
    FP base h (mled w m lc lct mc mct st ex ts te lo ds de ls le) → Spec w loose mean mg mb base 306 [.ref m.x, .str x t, .ref l, pv, .int ln tl] 7 h (mled w m lc lct mc mct st ex ts te lo ds de ls le)
      (fun v n => RulePost w m lc lct st ex lo ds (ruleEnd x ps po ln ss zs mc) v n ∧ crOk x ps po = true) (¬ crOk x ps po = true) := by
  intro fp frs dp un gd s R hs' G hap hd hu ret err
  cases hok : crOk x ps po with
  | true => exact rule_ok o hs hz hx hlp hv hps hpo hok hts hls hds hpn hm0 hm1 fp frs dp un gd s R hs' G hap hd hu (fun v h' tk' n kp nw po => ret v h' tk' n kp nw ⟨po, hok⟩) (fun f => f.elim)
  | false => exact rule_bad o hx hlp hv hps hpo hok fp frs dp un gd s R hs' G hap hd hu (fun _ _ _ _ _ _ f => f.elim) (fun _ => err fun q => by rw [hok] at q; cases q)
theorem RulePost.elim {w : World} {m : MA} {lc : Int} {lct : Tok} {st ex : Value} {lo : Obj} {ds : List Value} {S : RS} {v : Value} {n : List (Addr × Obj)} (H : RulePost w m lc lct st ex lo ds S v n) {P : Prop}
    (k : ∀ mct ts te ls le ds2 de nd, v = .none → n = mled w m lc lct S.mc mct st ex ts te lo (ds ++ ds2) de ls le ++ nd → StrsAre ts S.ts → StrsAre ls S.ls → AllNe [m.x, m.d, m.t, m.lv, m.dr, m.lf] nd → All2 (DraftOn w (inl nd)) ds2 S.ds → P) : P := by
  obtain ⟨h1, mct, ts, te, ls, le, ds2, de, nd, h2, h3, h4, h5, h6⟩ := H
  exact k mct ts te ls le ds2 de nd h1 h2 h3 h4 h5 h6
theorem LevelPost.elim {w : World} {m : MA} {lc mc : Int} {mct : Tok} {st ex : Value} {ds : List Value} {de : Nat} {ls : List Value} {le : Nat} {kvs : List (Str × Value)} {ss : List Str} {side : Str} {ns : List Str} {v : Value} {n : List (Addr × Obj)} (H : LevelPost w m lc mc mct st ex ds de ls le kvs ss side ns v n) {P : Prop}
    (k : ∀ lct ts te lo kvs2 nd, v = .none → n = mled w m (lc + 1) lct mc mct st ex ts te lo ds de ls le ++ nd → StrsAre ts (ns.foldl addTok ss) → lo.IsDictOf (_root_.PySem.strKind prg w) (kvs ++ kvs2) → LvsOn (inl nd) kvs2 (lvNew (lc + 1) side ns) → AllNe [m.x, m.d, m.t, m.lv, m.dr, m.lf] nd → P) : P := by
  obtain ⟨h1, lct, ts, te, lo, kvs2, nd, h2, h3, h4, h5, h6⟩ := H
  exact k lct ts te lo kvs2 nd h1 h2 h3 h4 h5 h6
theorem CallOn.ruleE {P : Mp} {v : Value} {x : Str} {ps : List Part} {po : Option Str} (H : CallOn P v (.rule x ps po)) {G : Prop} (k : ∀ a b l t1 t2 vs e pv, v = .ref a → P a (tupO [.str "rule" t1, .ref b]) → P b (tupO [.str x t2, .ref l, pv]) → P l (listOf (vs : List Value).toArray e) → PartsOn P vs ps → OptS pv po → G) : G := by
  obtain ⟨a, b, l, t1, t2, vs, e, pv, h1, h2, h3, h4, h5, h6⟩ := H
  exact k a b l t1 t2 vs e pv h1 h2 h3 h4 h5 h6
theorem CallOn.levelE {P : Mp} {v : Value} {side : Str} {ns : List Str} (H : CallOn P v (.level side ns)) {G : Prop} (k : ∀ a b l t1 t2 vs e, v = .ref a → P a (tupO [.str "level" t1, .ref b]) → P b (tupO [.str side t2, .ref l]) → P l (listOf (vs : List Value).toArray e) → StrsAre vs ns → G) : G := by
  obtain ⟨a, b, l, t1, t2, vs, e, h1, h2, h3, h4, h5⟩ := H
  exact k a b l t1 t2 vs e h1 h2 h3 h4 h5
theorem words_B20_b : True := by
  k_with "nest_cls" =>
    (
      (try dsimp only)
      refine caught_ge fl9 (by k_asm) (by k_asm) B' X T ?_
      intro h' g9 T9 F' N' B9 X9 T9')
  k_with "call ref" =>
    (k_dflt (
      (with_reducible show wpAny _ _ (call (Value.ref 256) _) _ _ _)
      (refine' useP (token_any ?ta ?tb ?tc ?td) X T B' ?F ?N ?A ?L ?K ?d ?u ?P ?ne ?tm ?te)
      (case ta => assumption)
      (case td => assumption)
      (case F => k_asm)
      (case N => k_asm)
      (case A => exact rfl)
      (case L => exact rfl)
      (case K => intro h9; cases h9)
      (case d => ktr_room)
      (case u => ktr_units)
      (case P => tb_start)
      (case ne => k_allIn)
      (case tb => assumption)
      (case tc => omega)
      (case' te => (intro hx9 e9 h9 tk9 fl9; nest_cls))
      (case' tm => (
        intro v' h' tk' news' F' N' hf' kp' po'
        obtain ⟨rfl, hk9, ts', te', rfl, hs'⟩ := po'
        simp only [List.cons_append, List.nil_append, List.append_nil] at N'
        (try k_sweep)))))
  k_with "call ref" =>
    (k_dflt (
      (with_reducible show wpAny _ _ (call (Value.ref 270) _) _ _ _)
      (refine' useP (start_any ?ta ?tb ?tc) X T B' ?F ?N ?A ?L ?K ?d ?u ?P ?ne ?tm ?te)
      (case ta => assumption)
      (case tc => assumption)
      (case F => k_asm)
      (case N => k_asm)
      (case A => exact rfl)
      (case L => exact rfl)
      (case K => intro h9; cases h9)
      (case d => ktr_room)
      (case u => ktr_units)
      (case P => tb_start)
      (case ne => k_allIn)
      (case tb => assumption)
      (case' te => (intro hx9 e9 h9 tk9 fl9; nest_cls))
      (case' tm => (
        intro v' h' tk' news' F' N' hf' kp' po'
        obtain ⟨rfl, hk9, rfl⟩ := po'
        simp only [List.cons_append, List.nil_append, List.append_nil] at N'
        (try k_sweep)))))
  k_with "call ref" =>
    (k_dflt (
      (with_reducible show wpAny _ _ (call (Value.ref 277) _) _ _ _)
      (refine' useP (expect_any ?ta ?tb) X T B' ?F ?N ?A ?L ?K ?d ?u ?P ?ne ?tm ?te)
      (case ta => assumption)
      (case F => k_asm)
      (case N => k_asm)
      (case A => exact rfl)
      (case L => exact rfl)
      (case K => intro h9; cases h9)
      (case d => ktr_room)
      (case u => ktr_units)
      (case P => tb_start)
      (case ne => k_allIn)
      (case tb => assumption)
      (case' te => (intro hx9 e9 h9 tk9 fl9; nest_cls))
      (case' tm => (
        intro v' h' tk' news' F' N' hf' kp' po'
        obtain ⟨rfl, hk9, rfl⟩ := po'
        simp only [List.cons_append, List.nil_append, List.append_nil] at N'
        (try k_sweep)))))
  k_with "call ref" =>
    (k_dflt (
      (with_reducible show wpAny _ _ (call (Value.ref 263) _) _ _ _)
      (refine' useP (level_any ?ta hlo (LvsOn.keys hlv) hsy ?tb (fun g2 k => hlL.at fun o e => keeps_six (by k_asm) hsix g2 k _ o e) hns ?tc ?td ?tf ?tg ?th ?ti ?tj) X T B' ?F ?N ?A ?L ?K ?d ?u ?P ?ne ?tm ?te)
      (case ta => assumption)
      (case F => k_asm)
      (case N => k_asm)
      (case A => exact rfl)
      (case L => exact rfl)
      (case K => intro h9; cases h9)
      (case d => ktr_room)
      (case u => ktr_units)
      (case P => tb_start)
      (case ne => k_allIn)
      (case tb => assumption)
      (case tc => assumption)
      (case td => omega)
      (case tf => assumption)
      (case tg => omega)
      (case th => omega)
      (case ti => omega)
      (case tj => omega)
      (case' te => (intro hx9 e9 h9 tk9 fl9; nest_cls))
      (case' tm => (
        intro v' h' tk' news' F' N' hf' kp' po'
        have hk9 := po'.2
        refine LevelPost.elim po'.1 ?_
        clear po'
        intro lct' ts' te' lo' kvs2' nd' hv9 hn9 hs' hlo' hlv' hAN
        subst hv9 hn9
        simp only [List.cons_append, List.nil_append, List.append_nil] at N'
        (try k_sweep)))))
  k_with "call ref" =>
    (k_dflt (
      (with_reducible show wpAny _ _ (call (Value.ref 306) _) _ _ _)
      (refine' useP (rule_any ?ta ?tb ?tc ?td (fun g2 k => ⟨hlL.at fun o e => keeps_six (by k_asm) hsix g2 k _ o e, hps.mono fun a o e => keeps_six (by k_asm) hsix g2 k a o e⟩) ?tf ?tg ?th ?ti ?tj ?tk ?tl ?tn ?to) X T B' ?F ?N ?A ?L ?K ?d ?u ?P ?ne ?tm ?te)
      (case ta => assumption)
      (case td => assumption)
      (case F => k_asm)
      (case N => k_asm)
      (case A => exact rfl)
      (case L => exact rfl)
      (case K => intro h9; cases h9)
      (case d => ktr_room)
      (case u => ktr_units)
      (case P => tb_start)
      (case ne => k_allIn)
      (case tb => assumption)
      (case tc => assumption)
      (case tf => assumption)
      (case tg => assumption)
      (case th => assumption)
      (case ti => omega)
      (case tj => omega)
      (case tk => omega)
      (case tl => omega)
      (case tn => omega)
      (case to => omega)
      (case' te => (intro hx9 e9 h9 tk9 fl9; nest_cls))
      (case' tm => (
        intro v' h' tk' news' F' N' hf' kp' po'
        have hk9 := po'.2
        refine RulePost.elim po'.1 ?_
        clear po'
        intro mct' ts' te' ls' le' ds2' de' nd' hv9 hn9 hs' hz' hAN hds'
        subst hv9 hn9
        simp only [List.cons_append, List.nil_append, List.append_nil] at N'
        (try k_sweep)))))
  trivial
theorem MkL.mono {P P' : Mp} {led : List (Addr × Obj)} (hM : MkL w m S P led) (k : ∀ a o, P a o → P' a o) : MkL w m S P' led := by
  obtain ⟨lct, mct, st, ex, ts, te, lo, ds, de, ls, le, kvs, e, a1, a2, a3, a4, a5, a6, a7⟩ := hM
  exact ⟨lct, mct, st, ex, ts, te, lo, ds, de, ls, le, kvs, e, a1, a2, a3, a4, a5, a6.mono k, a7.mono fun _ _ => DraftOn.mono k⟩
theorem let_yes {c : Cal} {led nd n : List (Addr × Obj)} (hok : calOk S c) (hM : MkL w m (calDo S c) (fun a o => P a o ∨ (a, o) ∈ nd) led) (hA : AllNe [m.x, m.d, m.t, m.lv, m.dr, m.lf] nd) (e : n = led ++ nd) : LetPost w m S P c (.bool true) n := .inl ⟨hok, rfl, led, nd, e, hM, hA⟩
theorem let_no {c : Cal} {n : List (Addr × Obj)} (hok : ¬ calOk S c) (hM : MkL w m S P n) : LetPost w m S P c (.bool false) n := .inr ⟨hok, rfl, hM⟩
theorem let_token {v : Value} {x : Str} (o : m.Ok) (hsy : (m.lv == sysModules) = false) (hM : MkL w m S P led) (hS : MFit S) (hcf : calFits (.token x)) (hc : ∀ g : Heap, (∀ b o, h.get? b = some o → b ∉ [m.x, m.d, m.t, m.lv, m.dr, m.lf] → g.get? b = some o) → CallOn (inh g) v (.token x)) :
    FP base h led → SpecT w loose mean mg mb base 377 [.ref m.x, v] 12 h led (LetPost w m S P (.token x)) := by
  have o' := o
  obtain ⟨a1, a2, a3, a4, a5⟩ := o
  obtain ⟨lct, mct, st, ex, ts, te, lo, ds, de, ls, le, kvs, rfl, hT, hL, hst, hex, hlo, hlv, hds⟩ := hM
  obtain ⟨f1, f2, f3, f4, f5, f6, f7, f8⟩ := hS
  have q1 := hT.length
  have q2 := hL.length
  have q3 := hlv.len
  have q4 := hds.len
  intro fp
  tlg_ne
  have hsix := six_none N'
  obtain ⟨a, t1, t2, rfl, ha⟩ := hc g' gk'
  clear hc
  have hxl : x.length < 1000 := hcf
  have hta : g'.IsTuple a #[.str "token" t1, .str x t2] := ⟨_, ha, rfl, _, rfl⟩
  k_steps
  case tm =>
    try dsimp only
    exact leaveT hkT hfT (by k_asm) (by k_asm) fun kp up nw => ret _ _ _ _ kp up nw (let_yes (nd := []) hk9 ⟨_, _, _, _, _, _, _, _, _, _, _, _, rfl, hs', hL, hst, hex, hlo, hlv.mono fun _ _ => .inl, hds.mono fun _ _ => DraftOn.mono fun _ _ => .inl⟩ True.intro (List.append_nil _).symm)
  case te =>
    try dsimp only
    exact leaveT (hkT.turn T9) (hfT.turn T9) (by k_asm) (by k_asm) fun kp up nw => ret _ _ _ _ kp up nw (let_no (fun q : kept x = false => by rw [hx9] at q; cases q) ⟨_, _, _, _, _, _, _, _, _, _, _, _, rfl, hT, hL, hst, hex, hlo, hlv, hds⟩)
theorem let_start {v : Value} {x : Str} (o : m.Ok) (hsy : (m.lv == sysModules) = false) (hM : MkL w m S P led) (hS : MFit S) (hcf : calFits (.start x)) (hc : ∀ g : Heap, (∀ b o, h.get? b = some o → b ∉ [m.x, m.d, m.t, m.lv, m.dr, m.lf] → g.get? b = some o) → CallOn (inh g) v (.start x)) :
    FP base h led → SpecT w loose mean mg mb base 377 [.ref m.x, v] 12 h led (LetPost w m S P (.start x)) := by
  have o' := o
  obtain ⟨a1, a2, a3, a4, a5⟩ := o
  obtain ⟨lct, mct, st, ex, ts, te, lo, ds, de, ls, le, kvs, rfl, hT, hL, hst, hex, hlo, hlv, hds⟩ := hM
  obtain ⟨f1, f2, f3, f4, f5, f6, f7, f8⟩ := hS
  have q1 := hT.length
  have q2 := hL.length
  have q3 := hlv.len
  have q4 := hds.len
  intro fp
  tlg_ne
  have hsix := six_none N'
  obtain ⟨a, t1, t2, rfl, ha⟩ := hc g' gk'
  clear hc
  have hxl : x.length < 1000 := hcf
  have hta : g'.IsTuple a #[.str "start" t1, .str x t2] := ⟨_, ha, rfl, _, rfl⟩
  k_steps
  case tm =>
    try dsimp only
    exact leaveT hkT hfT (by k_asm) (by k_asm) fun kp up nw => ret _ _ _ _ kp up nw (let_yes (nd := []) hk9 ⟨_, _, _, _, _, _, _, _, _, _, _, _, rfl, hT, hL, .some _ _, hex, hlo, hlv.mono fun _ _ => .inl, hds.mono fun _ _ => DraftOn.mono fun _ _ => .inl⟩ True.intro (List.append_nil _).symm)
  case te =>
    try dsimp only
    exact leaveT (hkT.turn T9) (hfT.turn T9) (by k_asm) (by k_asm) fun kp up nw => ret _ _ _ _ kp up nw (let_no hx9 ⟨_, _, _, _, _, _, _, _, _, _, _, _, rfl, hT, hL, hst, hex, hlo, hlv, hds⟩)
theorem let_expect {v : Value} {x : Int} (o : m.Ok) (hsy : (m.lv == sysModules) = false) (hM : MkL w m S P led) (hS : MFit S) (hcf : calFits (.expect x)) (hc : ∀ g : Heap, (∀ b o, h.get? b = some o → b ∉ [m.x, m.d, m.t, m.lv, m.dr, m.lf] → g.get? b = some o) → CallOn (inh g) v (.expect x)) :
    FP base h led → SpecT w loose mean mg mb base 377 [.ref m.x, v] 12 h led (LetPost w m S P (.expect x)) := by
  have o' := o
  obtain ⟨a1, a2, a3, a4, a5⟩ := o
  obtain ⟨lct, mct, st, ex, ts, te, lo, ds, de, ls, le, kvs, rfl, hT, hL, hst, hex, hlo, hlv, hds⟩ := hM
  obtain ⟨f1, f2, f3, f4, f5, f6, f7, f8⟩ := hS
  have q1 := hT.length
  have q2 := hL.length
  have q3 := hlv.len
  have q4 := hds.len
  intro fp
  tlg_ne
  have hsix := six_none N'
  obtain ⟨a, t1, t2, rfl, ha⟩ := hc g' gk'
  clear hc
  have hta : g'.IsTuple a #[.str "expect" t1, .int x t2] := ⟨_, ha, rfl, _, rfl⟩
  k_steps
  case tm =>
    try dsimp only
    exact leaveT hkT hfT (by k_asm) (by k_asm) fun kp up nw => ret _ _ _ _ kp up nw (let_yes (nd := []) hk9 ⟨_, _, _, _, _, _, _, _, _, _, _, _, rfl, hT, hL, hst, .some _ _, hlo, hlv.mono fun _ _ => .inl, hds.mono fun _ _ => DraftOn.mono fun _ _ => .inl⟩ True.intro (List.append_nil _).symm)
  case te =>
    try dsimp only
    exact leaveT (hkT.turn T9) (hfT.turn T9) (by k_asm) (by k_asm) fun kp up nw => ret _ _ _ _ kp up nw (let_no hx9 ⟨_, _, _, _, _, _, _, _, _, _, _, _, rfl, hT, hL, hst, hex, hlo, hlv, hds⟩)
theorem let_level {v : Value} {side : Str} {ns : List Str} (o : m.Ok) (hsy : (m.lv == sysModules) = false) (hM : MkL w m S P led) (hS : MFit S) (hcf : calFits (.level side ns)) (hc : ∀ g : Heap, (∀ b o, h.get? b = some o → b ∉ [m.x, m.d, m.t, m.lv, m.dr, m.lf] → g.get? b = some o) → CallOn (inh g) v (.level side ns)) :
    FP base h led → SpecT w loose mean mg mb base 377 [.ref m.x, v] 12 h led (LetPost w m S P (.level side ns)) := by
  have o' := o
  obtain ⟨a1, a2, a3, a4, a5⟩ := o
  obtain ⟨lct, mct, st, ex, ts, te, lo, ds, de, ls, le, kvs, rfl, hT, hL, hst, hex, hlo, hlv, hds⟩ := hM
  obtain ⟨f1, f2, f3, f4, f5, f6, f7, f8⟩ := hS
  have q1 := hT.length
  have q2 := hL.length
  have q3 := hlv.len
  have q4 := hds.len
  intro fp
  tlg_ne
  have hsix := six_none N'
  refine (hc g' gk').levelE ?_
  clear hc
  intro a b l t1 t2 vs e hv1 ha hb hl hns
  subst hv1
  obtain ⟨g1, g2, g3⟩ := hcf
  have q5 := hns.length
  have hlL : g'.IsList l vs.toArray := ⟨_, hl, rfl, _, rfl⟩
  have hta : g'.IsTuple a #[.str "level" t1, .ref b] := ⟨_, ha, rfl, _, rfl⟩
  have htb : g'.IsTuple b #[.str side t2, .ref l] := ⟨_, hb, rfl, _, rfl⟩
  k_steps
  case tm =>
    try dsimp only
    exact leaveT hkT hfT (by k_asm) (by k_asm) fun kp up nw => ret _ _ _ _ kp up nw (let_yes (nd := nd') hk9 ⟨_, _, _, _, _, _, _, _, _, _, _, _, rfl, hs', hL, hst, hex, hlo', (hlv.mono fun _ _ => .inl).append (hlv'.mono fun _ _ => .inr), hds.mono fun _ _ => DraftOn.mono fun _ _ => .inl⟩ hAN rfl)
  case te =>
    try dsimp only
    exact leaveT (hkT.turn T9) (hfT.turn T9) (by k_asm) (by k_asm) fun kp up nw => ret _ _ _ _ kp up nw (let_no hx9 ⟨_, _, _, _, _, _, _, _, _, _, _, _, rfl, hT, hL, hst, hex, hlo, hlv, hds⟩)
theorem let_rule {v : Value} {x : Str} {ps : List Part} {po : Option Str} (o : m.Ok) (hsy : (m.lv == sysModules) = false) (hM : MkL w m S P led) (hS : MFit S) (hcf : calFits (.rule x ps po)) (hc : ∀ g : Heap, (∀ b o, h.get? b = some o → b ∉ [m.x, m.d, m.t, m.lv, m.dr, m.lf] → g.get? b = some o) → CallOn (inh g) v (.rule x ps po)) :
    FP base h led → SpecT w loose mean mg mb base 377 [.ref m.x, v] 12 h led (LetPost w m S P (.rule x ps po)) := by
  have o' := o
  obtain ⟨a1, a2, a3, a4, a5⟩ := o
  obtain ⟨lct, mct, st, ex, ts, te, lo, ds, de, ls, le, kvs, rfl, hT, hL, hst, hex, hlo, hlv, hds⟩ := hM
  obtain ⟨f1, f2, f3, f4, f5, f6, f7, f8⟩ := hS
  have q1 := hT.length
  have q2 := hL.length
  have q3 := hlv.len
  have q4 := hds.len
  intro fp
  tlg_ne
  have hsix := six_none N'
  refine (hc g' gk').ruleE ?_
  clear hc
  intro a b l t1 t2 vs e pv hv1 ha hb hl hps hpv
  subst hv1
  obtain ⟨g1, g2, g3, g4⟩ := hcf
  have hlL : g'.IsList l vs.toArray := ⟨_, hl, rfl, _, rfl⟩
  have hta : g'.IsTuple a #[.str "rule" t1, .ref b] := ⟨_, ha, rfl, _, rfl⟩
  have htb : g'.IsTuple b #[.str x t2, .ref l, pv] := ⟨_, hb, rfl, _, rfl⟩
  k_steps
  case tm =>
    try dsimp only
    exact leaveT hkT hfT (by k_asm) (by k_asm) fun kp up nw => ret _ _ _ _ kp up nw (let_yes (nd := nd') hk9 ⟨_, _, _, _, _, _, _, _, _, _, _, _, rfl, hs', hz', hst, hex, hlo, hlv.mono fun _ _ => .inl, (hds.mono fun _ _ => DraftOn.mono fun _ _ => .inl).append (hds'.mono fun _ _ => DraftOn.mono fun _ _ => .inr)⟩ hAN rfl)
  case te =>
    try dsimp only
    exact leaveT (hkT.turn T9) (hfT.turn T9) (by k_asm) (by k_asm) fun kp up nw => ret _ _ _ _ kp up nw (let_no hx9 ⟨_, _, _, _, _, _, _, _, _, _, _, _, rfl, hT, hL, hst, hex, hlo, hlv, hds⟩)
theorem is_let {v : Value} {c : Cal} (o : m.Ok) (hsy : (m.lv == sysModules) = false) (hM : MkL w m S P led) (hS : MFit S) (hcf : calFits c) (hc : ∀ g : Heap, (∀ b o, h.get? b = some o → b ∉ [m.x, m.d, m.t, m.lv, m.dr, m.lf] → g.get? b = some o) → CallOn (inh g) v c) :
    FP base h led → SpecT w loose mean mg mb base 377 [.ref m.x, v] 12 h led (LetPost w m S P c) := by
  cases c with
  | token x => exact let_token o hsy hM hS hcf hc
  | start x => exact let_start o hsy hM hS hcf hc
  | expect x => exact let_expect o hsy hM hS hcf hc
  | level x ns => exact let_level o hsy hM hS hcf hc
  | rule x ps po => exact let_rule o hsy hM hS hcf hc
end
theorem words_B21 : True := by
  k_with_none
  k_with "ktr_room" =>
    ((try simp only [depth_under_make, depth_under_kw, depth_in1, depth_deeper]); (try dsimp only [Ar]); omega)
  k_with "ktr_units" =>
    ((try simp only [units_in1, units_deeper, Around.mark_units]); (try dsimp only [Ar]); omega)
  k_with "ktr_enter" =>
    (
      intro frs dp un gd s R hs G hap hd hu ret err
      subst hs
      have X := G.X
      have T := G.T
      k_dflt (
        refine' enterP G _ ?k1 hap ?k3 ?k4 ?k5 ?k6 ?k8 ?k7 ?_ ?c2 ?c3 ?c4 ?c5
        (case k3 => k_is)
        (case k4 => k_is)
        (case k1 => assumption)
        (case k5 => omega)
        (case k6 => exact rfl)
        (case k8 => (refine' zr_of ?zra ?zrb; (case zra => (dsimp only [List.map_cons, List.map_nil]; try exact rfl)); (case zrb => first | exact zr1 | exact zr2 | exact zr3 | exact zr4 | exact zr5 | exact zr6 | exact zr7 | exact zr8)))
        (case k7 => exact locs rfl)
        (case c2 => exact rfl)
        (case c3 => exact rfl)
        (case c4 => exact rfl)
        (case c5 => decide)
        k_whole
        intro g' L' h' tk' gk' F' N' B' X' T'
        (try dsimp only [mled] at N')
        (try dsimp only)
        (try k_fold)))
  k_with "ktr_step" =>
    (
      intro frs dp un gd s R hs G hap hd hu ret err
      subst hs
      have X := G.X
      have T := G.T
      have Xs : (frag.heap_1 w.params).In s.heap := X.keeps G.st
      k_dflt (
        refine' enter G _ ?k1 hap ?k3 ?k4 ?k5 ?k6 ?k7 ?_ ?c2 ?c3 ?c4 ?c5
        (case k3 => k_is)
        (case k4 => k_is)
        (case k1 => assumption)
        (case k5 => omega)
        (case k6 => first | exact BindsTo.of_eq rfl | exact binds_K Xs rfl (by k_is) rfl rfl rfl)
        (case k7 => exact locs rfl)
        (case c2 => exact rfl)
        (case c3 => exact rfl)
        (case c4 => exact rfl)
        (case c5 => decide)
        k_whole
        intro g' L' h' gk' F' N' B' X' T'
        (try dsimp only [mled] at N')
        (try dsimp only)
        (try k_fold)))
  k_with "exec Raise some none" =>
    (k_dflt (refine' Raise_ge X T B' ?F X' T' ?d ?u ?a ?b ?c ?_; (case F => k_asm); (case d => ktr_room); (case u => ktr_units); (case a => exact rfl); (case b => exact rfl); (case c => exact rfl)))
  k_with "k_room" =>
    ktr_room
  k_with "call type:range" =>
    (k_dflt (refine' range1_rows ?F ?N ?_; (case F => k_asm); (case N => k_asm); intro h' tk' t1' u1' v1' R' F' N' kp'))
  k_with "exec For" =>
    (k_dflt (refine' For_own ?_ ?s; (case s => intro _; rfl)))
  k_with "ktr_rel" =>
    (
      (case F => k_asm)
      (case N => k_asm)
      (case A => exact rfl)
      (case L => exact rfl)
      (case K => intro h9; cases h9)
      (case d => ktr_room)
      (case u => ktr_units)
      (case e => intro h9; cases h9)
      intro h' tk' F' N'
      (try k_sweep))
  k_with "ktn_open" =>
    first | exact Rm.head | (apply Rm.tail; ktn_open)
  k_with "tb_start" =>
    first | exact Pick.nil | (refine' Pick.cons ?pka ?pkb; (case pka => ktn_open); (case pkb => tb_start))
  k_with "k_memK" =>
    first | exact ne0 | (refine ne1 ?x ?_; (case x => ((try dsimp only); omega)); k_memK)
  k_with "k_allIn" =>
    first | exact True.intro | (refine And.intro ?h ?_; (case h => k_memK); k_allIn)
  k_with "tb_rel" =>
    (
      (case F => k_asm)
      (case N => k_asm)
      (case A => exact rfl)
      (case L => exact rfl)
      (case K => intro h9; cases h9)
      (case d => ktr_room)
      (case u => ktr_units)
      (case e => intro h9; cases h9)
      (case P => tb_start)
      (case ne => k_allIn))
  k_with "compareOp In str ref" =>
    (k_dflt (refine' in_list_strs ?l ?i ?_; (case l => exact isL (by k_asm) (by k_mem)); (case i => assumption)))
  k_with "compareOp NotIn str ref" =>
    (k_dflt (refine' notin_list_strs ?l ?i ?_; (case l => exact isL (by k_asm) (by k_mem)); (case i => assumption)))
  k_with "call builtin:list.append" =>
    (k_dflt (refine' append_L ?k1 ?k2 ?k3 ?z ?_; (case k1 => k_asm); (case k2 => k_asm); (case k3 => k_upd); (case z => first | omega | (simp only [List.length_append, List.length_cons, List.length_nil]; omega)); k_whole); intro h' F' N'; (try k_sweep))
  k_with "call ref" =>
    (k_dflt (
      (first
      | (refine' use0 (is_kept ?a) X T B' ?F ?N ?A ?L ?K ?d ?u ?_ ?e; (case a => assumption))
      | (refine' use0 (is_literal ?a) X T B' ?F ?N ?A ?L ?K ?d ?u ?_ ?e; (case a => assumption))
      | (refine' use0 (check_name ?a ?b) X T B' ?F ?N ?A ?L ?K ?d ?u ?_ ?e; (case a => assumption); (case b => assumption)))
      ktr_rel))
  k_with "boot_fact" =>
    (refine' News.subl ?nwN ?nwS; (case nwN => k_asm); (case nwS => (intro p hp; repeat (first | with_reducible exact hp | with_reducible refine List.mem_cons_of_mem _ ?_))))
  k_with "mem_news" =>
    (with_reducible_and_instances (repeat (first | exact List.Mem.head _ | refine List.Mem.tail _ ?_)))
  k_with "call ref" =>
    (k_dflt (
      (with_reducible show wpAny _ _ (call (Value.ref 207) _) _ _ _)
      (refine' useX (check_name_any ?a) X T B' ?F ?N ?A ?L ?K ?d ?u ?_ ?e)
      (case a => assumption)
      (case F => k_asm)
      (case N => k_asm)
      (case A => exact rfl)
      (case L => exact rfl)
      (case K => intro h9; cases h9)
      (case d => ktr_room)
      (case u => ktr_units)
      (case e => intro hx9 e9 h9 tk9 fl9; refine pass_out gk' (fun p hp => (fp p hp).1) (by k_asm) ?_ fl9 fun h2 f2 => err ?_ _ _ _ f2; boot_fact; nest_cls)
      intro h' tk' F' N' hx'
      (try k_sweep)))
  k_with "kas_types" =>
    exact map4 (a := Str.ofString "text") (b := Str.ofString "kind") (c := Str.ofString "at") (d := Str.ofString "action") rfl rfl rfl rfl (fun y h1 h2 h3 h4 => by simp only [if_neg h1, if_neg h2, if_neg h3, if_neg h4])
  k_with "krn_off" =>
    (
      intro frs dp un gd s R hs G hap hd hu ret err
      subst hs
      have X := G.X
      have T := G.T
      have Xs : (frag.heap_1 w.params).In s.heap := X.keeps G.st
      k_dflt (
        refine' enterPd G _ ?k1 hap ?k3 ?k4 ?k5 ?k6 ?k8 ?k7 ?_ ?c2 ?c3 ?c4 ?c5
        (case k3 => k_is)
        (case k4 => k_is)
        (case k1 => assumption)
        (case k5 => omega)
        (case k6 => exact binds_K Xs rfl (by k_is) rfl rfl rfl)
        (case k8 => (refine' zr_of ?zra ?zrb; (case zra => (dsimp only [List.map_cons, List.map_nil]; try exact rfl)); (case zrb => first | exact zr1 | exact zr2 | exact zr3 | exact zr4 | exact zr5 | exact zr6 | exact zr7 | exact zr8)))
        (case k7 => exact locs rfl)
        (case c2 => exact rfl)
        (case c3 => exact rfl)
        (case c4 => exact rfl)
        (case c5 => decide)
        k_whole
        intro g' L' h' tk' gk' F' N' B' X' T'
        (try dsimp only [mled] at N')
        (try dsimp only)
        (try k_fold)))
  k_with "k_all" =>
    first | exact List.forall_mem_nil _ | with_reducible assumption | exact allLt_ne (by with_reducible assumption) | (refine' List.forall_mem_cons.mpr ⟨?a, ?b⟩; (case a => k_ne); (case b => k_all))
  k_with "k_allIn" =>
    first | exact True.intro | exact hAN | (refine And.intro ?h ?_; (case h => k_memK); k_allIn)
  k_with "call ref" =>
    (k_dflt (
      (with_reducible show wpAny _ _ (call (Value.ref 235) _) _ _ _)
      (refine' useX (check_rule_any ?a ?b ?c ?v ?ps ?po) X T B' ?F ?N ?A ?L ?K ?d ?u ?_ ?e)
      (case a => assumption)
      (case v => assumption)
      (case F => k_asm)
      (case N => k_asm)
      (case A => exact rfl)
      (case L => exact rfl)
      (case K => intro h9; cases h9)
      (case d => ktr_room)
      (case u => ktr_units)
      (case ps => assumption)
      (case po => assumption)
      (case b => exact IsList_Fr (by k_asm) (by assumption))
      (case c => exact PartsOn_Fr (by k_asm) (by assumption))
      (case e => intro hx9 e9 h9 tk9 fl9; first | (rw [hok] at hx9; cases hx9) | (refine pass_out gk' (fun p hp => (fp p hp).1) (by k_asm) ?_ fl9 fun h2 f2 => err ?_ _ _ _ f2; boot_fact; nest_cls))
      intro h' tk' F' N' hx'
      (try k_sweep)))
  k_with "call builtin:len" =>
    ((with_reducible show wpAny _ _ (call (Value.builtin "len") [Value.ref _]) _ _ _); k_dflt (refine' len_L ?l ?z ?_; (case l => first | exact IsList_Fr (by k_asm) (by with_reducible assumption) | exact isL (by k_asm) (by with_reducible k_mem)); (case z => first | omega | (simp only [List.length_append, List.length_cons, List.length_nil]; omega)); k_whole))
  k_with "subscriptTail Name Name ref int" =>
    (k_dflt (refine' item_B ?l ?i ?z ?_; (case l => exact IsList_Fr (by k_asm) (by assumption)); (case i => assumption); (case z => omega); k_whole))
  k_with "exec For Name Call cons nil" =>
    (k_dflt (refine' For_own ?_ ?s; (case s => intro _; rfl)))
  k_with "assign Tuple" =>
    (k_here; (with_reducible show wpAny _ _ (assign (Expr.Tuple _ _ _) _ (Value.ref _)) _ _ _); k_dflt (refine' unpackN_ ?F ?N ?T ?k1 ?k2 ?k3 ?_; (case F => k_asm); (case N => k_asm); (case T => exact IsTup_Fr (by k_asm) (by with_reducible assumption)); (case k1 => exact rfl); (case k2 => exact rfl); (case k3 => exact rfl)); intro h' F' N'; (try k_sweep))
  k_with "compareOp NotIn str ref" =>
    (k_dflt (refine' sides_in ?X ?_; (case X => exact Frag.In.keeps X' (Fr.keep (by k_asm)))))
  k_with "compareOp In str ref" =>
    (k_dflt (refine' in_lv ?lvN ?lvp ?lvd ?lvk ?lvo ?_; (case lvN => k_asm); (case lvp => mem_news); (case lvd => assumption); (case lvk => assumption); (case lvo => assumption)))
  k_with "compareOp In str ref" =>
    (k_dflt (refine' in_slice ?lsN ?lsp ?lsn ?_; (case lsN => k_asm); (case lsp => mem_news); (case lsn => assumption)))
  k_with "setItem ref str" =>
    (k_dflt (refine' kda_set (knd := _root_.PySem.strKind _ _) ?ksF ?ksN ?ksU ?ksd (strKind_is _ _ _ _) ?ksz ?_; (case ksF => k_asm); (case ksN => k_asm); (case ksU => k_updF); (case ksd => k_asm); (case ksz => rw [sizeLine_eq]; omega)); intro h' o' F' N' hd'; (try dsimp only at N'))
  k_with "tlg_ne" =>
    (
      intro frs dp un gd s R hs G hap hd hu ret
      subst hs
      have X := G.X
      have T := G.T
      k_dflt (
        refine' enterT G _ ?k1 hap ?k3 ?k4 ?k5 ?k6 ?k8 ?k7 ?_ ?c2 ?c3 ?c4 ?c5
        (case k3 => k_is)
        (case k4 => k_is)
        (case k1 => assumption)
        (case k5 => omega)
        (case k6 => exact rfl)
        (case k8 => (refine' zr_of ?zra ?zrb; (case zra => (dsimp only [List.map_cons, List.map_nil]; try exact rfl)); (case zrb => first | exact zr1 | exact zr2 | exact zr3 | exact zr4 | exact zr5 | exact zr6 | exact zr7 | exact zr8)))
        (case k7 => exact locs rfl)
        (case c2 => exact rfl)
        (case c3 => exact rfl)
        (case c4 => exact rfl)
        (case c5 => decide)
        k_whole
        intro g' L' h' tk' gk' hkT hfT F' N' B' X' T'
        (try dsimp only [mled] at N')
        (try dsimp only)
        (try k_fold)))
  k_with "k_ne" =>
    (refine neN ?_; (try dsimp only); first | with_reducible exact Nat.ne_of_lt (by with_reducible assumption) | with_reducible exact Nat.ne_of_gt (by with_reducible assumption) | with_reducible assumption | with_reducible exact Ne.symm (by with_reducible assumption) | omega)
  k_with "k_memK" =>
    first | exact ne0 | (refine ne1 ?kmx ?_; (case kmx => k_ne); k_memK)
  k_with "ktr_room" =>
    ((try simp only [depth_under_make, depth_under_kw, depth_in1, depth_deeper]); (try dsimp only [Ar]); first | exact room1 (by with_reducible assumption) (by decide) | exact room2 (by with_reducible assumption) (by decide) | omega)
  k_with "ktr_units" =>
    ((try simp only [units_in1, units_deeper, Around.mark_units]); (try dsimp only [Ar]); first | exact units1 (by with_reducible assumption) (by decide) | exact units2 (by with_reducible assumption) (by decide) | exact units3 (by with_reducible assumption) (by decide) | omega)
  k_with "atoms" =>
    first | exact Atoms.nil | (refine' Atoms.str ?amn; (case amn => k_extra "atoms")) | (refine' Atoms.int ?amn; (case amn => k_extra "atoms")) | (refine' Atoms.none ?amn; (case amn => k_extra "atoms")) | (refine' Atoms.name ?amv ?amx ?amd ?amn; (case amv => exact rfl); (case amx => exact rfl); (case amd => decide); (case amn => k_extra "atoms"))
  k_with "spliced" =>
    ((try dsimp only); k_dflt (refine' spliced_atoms ?saF ?sae ?saH ?_ ?sak; (case saF => k_asm); (case sae => exact rfl); (case sak => exact rfl); (case saH => k_extra "atoms"); k_whole))
  k_with "eval Tuple" =>
    ((try dsimp only); k_dflt (refine' tuple_atoms ?saF ?saN ?sae ?saH ?saz ?_ ?sak; (case saF => k_asm); (case sae => exact rfl); (case saN => k_asm); (case sak => exact rfl); (case saH => k_extra "atoms"); (case saz => kmk_size)); intro D' h' F' N' l1; (try k_lt l1); (try k_sweep))
  k_with "eval List" =>
    ((try dsimp only); k_dflt (refine' list_atoms ?saF ?saN ?sae ?saH ?saz ?_ ?sak; (case saF => k_asm); (case sae => exact rfl); (case saN => k_asm); (case sak => exact rfl); (case saH => k_extra "atoms"); (case saz => kmk_size); k_whole); intro l' h' F' N' l1; (try k_lt l1); (try k_sweep))
  k_with "eval Call" =>
    ((try dsimp only); k_dflt (refine' call_atoms ?saF ?saX ?saT ?saE ?sae ?sakp ?saH ?_ ?sax ?sad ?sas ?sap ?sak; (case saF => k_asm); (case saE => exact rfl); (case saX => k_asm); (case saT => k_asm); (case sax => exact rfl); (case sae => k_is); (case sakp => k_is); (case saH => k_extra "atoms"); (case sad => decide); (case sas => exact rfl); (case sap => exact rfl); (case sak => exact rfl); k_whole))
  k_with "eqNo" =>
    first | exact EqC.int_no (by decide) | exact EqC.str_no (by with_reducible assumption) | exact EqC.str_no (by decide +kernel) | exact EqC.int_no (by omega)
  k_with "eqYes" =>
    first | exact EqC.int_yes rfl | exact EqC.str_yes (by with_reducible assumption) | exact EqC.str_yes (by decide +kernel) | exact EqC.int_yes (by omega)
  k_with "exec If" =>
    ((with_reducible show wpAny _ _ (exec (Stmt.If (Expr.Compare (Expr.Name _ _) [CmpOp.Eq] [Expr.Constant _ _ _] _) _ _ _) _) _ _ _); k_dflt (first
      | (refine' if_no ?siF ?sie ?siv ?sin ?_ ?six ?sid ?sik; (case siF => k_asm); (case sie => exact rfl); (case siv => exact rfl); (case sin => k_extra "eqNo"); (case six => exact rfl); (case sid => decide); (case sik => exact rfl); k_whole)
      | (refine' if_yes ?siF ?sie ?siv ?sin ?_ ?six ?sid ?sik; (case siF => k_asm); (case sie => exact rfl); (case siv => exact rfl); (case sin => k_extra "eqYes"); (case six => exact rfl); (case sid => decide); (case sik => exact rfl); k_whole)))
  k_with "kat_tups" =>
    first | with_reducible_and_instances exact List.Mem.head _ | (refine List.Mem.tail _ ?_; kat_tups) | (refine List.mem_append.mpr (Or.inl ?_); kat_tups) | (refine List.mem_append.mpr (Or.inr ?_); kat_tups) | with_reducible assumption | with_reducible_and_instances exact hq | ((with_reducible show List.Mem _ _); with_reducible_and_instances assumption)
  k_with "top_args" =>
    first | exact List.forall_mem_nil _ | (refine List.forall_mem_cons.mpr (And.intro ?_ ?_); kat_tups; top_args) | (refine List.forall_mem_append.mpr (And.intro ?_ ?_); top_args; top_args) | (intro q hq; kat_tups)
  k_with "mem_news" =>
    first | ((with_reducible_and_instances (repeat (first | exact List.Mem.head _ | refine List.Mem.tail _ ?_))); done) | ((with_reducible show _ ∈ _); kat_tups) | ((try dsimp only [penL, booksL, mled, List.cons_append, List.nil_append]); top_args)
  k_with "ltD" =>
    first | with_reducible assumption | exact lt_l1 (by with_reducible assumption) (by kat_tups) | omega
  k_with "k_ne" =>
    (refine neN ?_; (try dsimp only); first | with_reducible assumption | with_reducible exact Ne.symm (by with_reducible assumption) | with_reducible exact Nat.ne_of_lt (by with_reducible assumption) | with_reducible exact Nat.ne_of_gt (by with_reducible assumption) | exact ne_l1 (by with_reducible assumption) (by kat_tups) | exact Ne.symm (ne_l1 (by with_reducible assumption) (by kat_tups)) | exact ne_l1s (by with_reducible assumption) (by kat_tups) | exact Ne.symm (ne_l1s (by with_reducible assumption) (by kat_tups)) | exact ne_lt2 (by with_reducible assumption) (by with_reducible assumption) (by kat_tups) | exact Ne.symm (ne_lt2 (by with_reducible assumption) (by with_reducible assumption) (by kat_tups)) | exact Anew.ne (by with_reducible assumption) (by kat_tups) | exact Ne.symm (Anew.ne (by with_reducible assumption) (by kat_tups)) | omega)
  k_with "k_all" =>
    first | exact List.forall_mem_nil _ | with_reducible assumption | exact tail_l1 (by with_reducible assumption) (by intro q hq; kat_tups) | (refine' List.forall_mem_cons.mpr ⟨?kaa, ?kab⟩; (case kaa => k_ne); (case kab => k_all))
  k_with "k_allIn" =>
    first | exact True.intro | with_reducible assumption | ((with_reducible refine AllNe.app ?_ ?_) <;> k_allIn) | (refine And.intro ?kah ?_; (case kah => k_memK); k_allIn)
  k_with "useC" =>
    (
      (case F => k_asm)
      (case N => k_asm)
      (case A => exact rfl)
      (case L => exact rfl)
      (case K => intro h9; cases h9)
      (case d => ktr_room)
      (case u => ktr_units)
      (case P => tb_start)
      (case ne => k_allIn))
  k_with "dipC" =>
    (
      (case ta => with_reducible assumption)
      (case tb => assumption)
      (case tc => assumption)
      k_extra "useC"
      (case tg => first | with_reducible assumption | omega)
      (case th => first | exact PB.lt6 (by with_reducible assumption) (by with_reducible assumption) (by decide) | exact PB.lt (by with_reducible assumption) (by with_reducible assumption) (by decide) | omega)
      (case ti => first | with_reducible assumption | omega))
  k_with "pbStep" =>
    (have hPB := PB.step (by with_reducible assumption) hp1)
  k_with "eval Tuple" =>
    ((try dsimp only); k_dflt (refine' tuple_atomsL ?saF ?saN ?sae ?saH ?saz ?_ ?sak; (case saF => k_asm); (case sae => exact rfl); (case saN => k_asm); (case sak => exact rfl); (case saH => k_extra "atoms"); (case saz => kmk_size)); intro D' h' nw' F' N' l1; (try k_lt l1); (try k_sweep))
  k_with "eval List" =>
    ((try dsimp only); k_dflt (refine' list_atomsL ?saF ?saN ?sae ?saH ?saz ?_ ?sak; (case saF => k_asm); (case sae => exact rfl); (case saN => k_asm); (case sak => exact rfl); (case saH => k_extra "atoms"); (case saz => kmk_size); k_whole); intro l' h' nw' F' N' l1; (try k_lt l1); (try k_sweep))
  k_with "newTuple" =>
    ((try dsimp only); k_dflt (refine' newTupleL ?F ?N ?_ ?z; (case F => k_asm); (case N => k_asm); (case z => kmk_size)); intro D' h' nw' F' N' l1; (try k_sweep))
  k_with "newList" =>
    ((try dsimp only); k_dflt (refine' newListL ?F ?N ?_ ?z; (case F => k_asm); (case N => k_asm); (case z => kmk_size)); intro D' h' nw' F' N' l1; (try k_sweep))
  k_with "storeName" =>
    ((try dsimp only); k_dflt (refine' storeL ?F ?N ?_ ?a ?b; (case F => k_asm); (case N => k_asm); (case a => exact rfl); (case b => exact rfl); k_whole); intro h' mm' F' N'; (try k_sweep))
  k_with "call ref" =>
    (k_dflt (
      (with_reducible show wpAny _ _ (call (Value.ref 351) _) _ _ _)
      (refine' dip_useL ?ta ?tb ?tc ?td ?tf ?tg ?th ?ti X T B' ?F ?N ?A ?L ?K ?d ?u ?P ?ne ?_)
      k_extra "dipC"
      (case td => first | decide | omega)
      (case tf => first | decide | omega)
      intro r' t' e' pos' pt' res' rt' h' tk' rs' nw' hnr' hky' hr0 hr1 hp0 hp1 hs0 F' N'
      (try k_extra "pbStep")
      (try have h5 := Has.keys (xs := [b.p, b.c, b.bk, b.fl, b.tk]) (by k_extra "hasK") hky')
      (try clear hky')
      (try k_sweep)))
  k_with "hasK" =>
    first | with_reducible assumption | exact Has.pen | (refine' Has.cons ?_; k_extra "hasK")
  k_with "k_allIn" =>
    first | exact True.intro | with_reducible assumption | (refine' Has.allNe ?hhh ?hhl ?_; (case hhl => with_reducible assumption); (case hhh => k_extra "hasK"); k_allIn) | ((with_reducible refine AllNe.app ?_ ?_) <;> k_allIn) | (refine And.intro ?kah ?_; (case kah => k_memK); k_allIn)
  k_with "hasM" =>
    first | exact Has.nil | (refine' Has.mk ?hmm ?_; (case hmm => mem_news); k_extra "hasM")
  k_with "k_ne" =>
    (refine neN ?_; (try dsimp only); first | with_reducible assumption | with_reducible exact Ne.symm (by with_reducible assumption) | with_reducible exact Nat.ne_of_lt (by with_reducible assumption) | with_reducible exact Nat.ne_of_gt (by with_reducible assumption) | exact ne_l1 (by with_reducible assumption) (by kat_tups) | exact Ne.symm (ne_l1 (by with_reducible assumption) (by kat_tups)) | exact ne_l1s (by with_reducible assumption) (by kat_tups) | exact Ne.symm (ne_l1s (by with_reducible assumption) (by kat_tups)) | exact ne_lt2 (by with_reducible assumption) (by with_reducible assumption) (by kat_tups) | exact Ne.symm (ne_lt2 (by with_reducible assumption) (by with_reducible assumption) (by kat_tups)) | exact Anew.ne (by with_reducible assumption) (by kat_tups) | exact Ne.symm (Anew.ne (by with_reducible assumption) (by kat_tups)) | exact ne_mem (by with_reducible assumption) (by kat_tups) | exact Ne.symm (ne_mem (by with_reducible assumption) (by kat_tups)) | omega)
  k_with "fiveN" =>
    first | exact True.intro | with_reducible assumption | (refine' Has.allNe ?fvh ?fvl ?_; (case fvl => with_reducible assumption); (case fvh => k_extra "hasK"); k_extra "fiveN") | (refine' Has.allNe2 ?fvh ?fvl ?_; (case fvl => with_reducible assumption); (case fvh => k_extra "hasK"); k_extra "fiveN")
  k_with "arith" =>
    first | with_reducible assumption | exact PB.le (by with_reducible assumption) (by decide) | omega
  k_with "strsC" =>
    first | exact StrsAre.nil | (apply StrsAre.cons; k_extra "strsC")
  k_with "subscriptTail" =>
    ((with_reducible show wpAny _ _ (subscriptTail (Expr.Tuple _ _ _) _ (Value.ref _) (Value.int _ _)) _ _ _); k_dflt (refine' item_strs ?iN ?ip ?iS ?i0 ?i1 ?im ?iz ?_; (case iN => k_asm); (case ip => mem_news); (case iS => k_extra "strsC"); (case i0 => with_reducible assumption); (case i1 => with_reducible assumption); (case im => exact rfl); (case iz => decide)); intro ys' ts' hys')
  k_with "subscriptTail" =>
    ((with_reducible show wpAny _ _ (subscriptTail (Expr.List _ _) _ (Value.ref _) (Value.int _ _)) _ _ _); k_dflt (refine' item_strsL ?iN ?ip ?iS ?i0 ?i1 ?iz ?_; (case iN => k_asm); (case ip => mem_news); (case iS => k_extra "strsC"); (case i0 => with_reducible assumption); (case i1 => first | assumption | (simp only [List.length_cons, List.length_nil]; omega)); (case iz => first | decide | (simp only [List.length_cons, List.length_nil]; omega))); intro ys' ts' hys')
  k_with "subscriptTail" =>
    ((with_reducible show wpAny _ _ (subscriptTail _ (Expr.Constant (Const.int 0) _ _) (Value.ref _) (Value.int 0 _)) _ _ _); k_dflt (refine' item_strsL ?iN ?ip ?iS ?i0 ?i1 ?iz ?_; (case iN => k_asm); (case ip => mem_news); (case iS => exact StrsAre.append' (by with_reducible assumption) (StrsAre.cons _ _ StrsAre.nil)); (case i0 => decide); (case i1 => (simp only [List.length_append, List.length_cons, List.length_nil]; omega)); (case iz => (simp only [List.length_append, List.length_cons, List.length_nil]; omega))); intro ys' ts' hys')
  k_with "eval Tuple" =>
    (k_fold; walk_at "eval Tuple")
  k_with "eval List" =>
    (k_fold; walk_at "eval List")
  k_with "eval BinOp" =>
    (k_fold; walk_at "eval BinOp")
  k_with "eval Call" =>
    (k_fold; walk_at "eval Call")
  k_with "eval Subscript" =>
    (k_fold; walk_at "eval Subscript")
  k_with "execs cons" =>
    (k_fold; walk_at "execs cons")
  k_with "exec If" =>
    (k_fold; walk_at "exec If")
  k_with "exec Assign" =>
    (k_fold; walk_at "exec Assign")
  k_with "exec Return some" =>
    (k_fold; walk_at "exec Return some")
  k_with "exec Expr" =>
    (k_fold; walk_at "exec Expr")
  k_with "ltSkip" => skip
  trivial
noncomputable def goodPart (p : Part) : Prop := (partBad p = false ∧ PyData.strOk p.2 = true) ∧ p.1.length < 1000 ∧ p.2.length < 1000
theorem mapE2 {α : Type} {a b : Str} {f g : Str → α} (h : ∀ y, y ≠ a → y ≠ b → f y = g y) : f = fun y => if y = a then f a else if y = b then f b else g y := by
  funext y
  by_cases h1 : y = a
  · rw [if_pos h1, h1]
  · rw [if_neg h1]
    by_cases h2 : y = b
    · rw [if_pos h2, h2]
    · rw [if_neg h2, h y h1 h2]
theorem third_adr {g h : Heap} {L a : Addr} {o : Obj} {q1 q2 : Addr × Obj} {l : List (Addr × Obj)} (_N : News g L h (q1 :: q2 :: (a, o) :: l)) : ∃ r, r = a := ⟨_, rfl⟩
noncomputable def PartsJ (p c : Addr) (cs : List Value) (n : Nat) (fo : Addr) (bm : Str → Option Value) (P0 : Int) (i : Nat) (mm : Str → Option Value) (nx : List (Addr × Obj)) : Prop :=
  ∃ e pos pt res rt vs fe nd ps a0 b0, nx = (fo, listOf (vs : List Value).toArray fe) :: (penL p c e pos pt res rt cs n ++ nd) ∧ 0 ≤ pos ∧ pos ≤ P0 + i ∧ 0 ≤ res ∧ PartsOn (inl nd) vs ps ∧ ps.length = i ∧ (∀ q ∈ ps, goodPart q) ∧ AllNe [p, c] nd ∧ (∀ q ∈ nd, q.1 ≠ fo) ∧
    mm = fun y => if y = Str.ofString "turn" then a0 else if y = Str.ofString "way" then b0 else bm y
theorem ite_no {b : Bool} {P Q : Prop} (h : b = false) (q : Q) : if b = true then P else Q := by rw [h]; exact q
theorem ite_yes {b : Bool} {P Q : Prop} (h : b = true) (q : P) : if b = true then P else Q := by rw [h]; exact q
theorem parts_turn {p c : Addr} {cs : List Value} {n : Nat} {fo : Addr} {bm mm : Str → Option Value} {P0 : Int} {i : Nat} {g : Heap} {L I D : Addr} {oI : Obj} {s₁ : Shared} {h' : Heap} {tk e fe : Nat} {pos res : Int} {pt rt t1 t2 : Tok} {vs : List Value} {k x : Str} {ps : List Part} {nd all : List (Addr × Obj)}
    (F : Fr g L h' mm) (N : News g L h' all) (hsub : ∀ q ∈ (I, oI) :: (fo, listOf (vs ++ [Value.ref D]).toArray fe) :: (p, listOf #[.ref c, .int pos pt, .int res rt] e) :: (c, listOf cs.toArray n) :: (D, tupO [.str k t1, .str x t2]) :: nd, q ∈ all)
    (h1 : @Ne Nat fo I) (h2 : @Ne Nat p I) (h3 : @Ne Nat c I) (hI : ∀ q ∈ nd, q.1 ≠ I) (d1 : @Ne Nat D I) (d2 : @Ne Nat D fo) (d3 : @Ne Nat p D) (d4 : @Ne Nat c D)
    (hp0 : 0 ≤ pos) (hp1 : pos ≤ P0 + (i + 1)) (hr : 0 ≤ res) (hPs : PartsOn (inl nd) vs ps) (hlen : ps.length = i) (hg : ∀ q ∈ ps, goodPart q) (hA : AllNe [p, c] nd) (hN : ∀ q ∈ nd, q.1 ≠ fo) (hgp : goodPart (k, x))
    (hm : ∀ y, y ≠ Str.ofString "turn" → y ≠ Str.ofString "way" → mm y = bm y) :
    TEnd g L (PartsJ p c cs n fo bm P0 (i + 1)) I oI s₁ { s₁ with heap := h', toks := tk } := by
  refine tEnd (nx' := (fo, listOf (vs ++ [Value.ref D]).toArray fe) :: (penL p c e pos pt res rt cs n ++ (D, tupO [.str k t1, .str x t2]) :: nd)) F (News.subl N hsub) ?_ ⟨e, pos, pt, res, rt, vs ++ [.ref D], fe, (D, tupO [.str k t1, .str x t2]) :: nd, ps ++ [(k, x)], _, _, rfl, hp0, by exact_mod_cast hp1, hr, ?_, ?_, ?_, ⟨?_, hA⟩, ?_, mapE2 hm⟩
  · intro q hq
    simp only [penL, List.cons_append, List.nil_append, List.mem_cons] at hq
    rcases hq with rfl | rfl | rfl | rfl | hq
    · exact h1
    · exact h2
    · exact h3
    · exact d1
    · exact hI q hq
  · exact (hPs.mono fun _ _ h => .tail _ h).append (.cons ⟨D, t1, t2, rfl, .head _⟩ .nil)
  · simp [hlen]
  · intro q hq
    rcases List.mem_append.mp hq with hq | hq
    · exact hg q hq
    · rw [List.mem_singleton.mp hq]; exact hgp
  · intro a ha
    simp only [List.mem_cons, List.not_mem_nil, or_false] at ha
    rcases ha with rfl | rfl
    · exact d3
    · exact d4
  · intro q hq
    rcases List.mem_cons.mp hq with rfl | hq
    · exact d2
    · exact hN q hq
noncomputable def PartsPost (p c : Addr) (cs : List Value) (n : Nat) (pos : Int) (v : Value) (nn : List (Addr × Obj)) : Prop :=
  ∃ e pos' pt res rt a vs fe nd ps, v = .ref a ∧ nn = penL p c e pos' pt res rt cs n ++ (a, listOf (vs : List Value).toArray fe) :: nd ∧ 0 ≤ pos' ∧ pos' ≤ pos + 11 ∧ 0 ≤ res ∧ PartsOn (inl nd) vs ps ∧ ps.length < 10 ∧ (∀ q ∈ ps, goodPart q) ∧ AllNe [p, c] ((a, listOf vs.toArray fe) :: nd) ∧ (∀ q ∈ nd, q.1 ≠ a)
theorem rotP0 {α : Type} {f a b : α} : ∀ q ∈ [f, a, b], q ∈ [a, b, f] := by
  intro q hq
  simp only [List.mem_cons] at hq ⊢
  rcases hq with h | h | h | h <;> simp [h]
theorem rotP3 {α : Type} {f a b : α} {nd : List α} : ∀ q ∈ [a, b] ++ f :: nd, q ∈ f :: a :: b :: nd := swap_app (a := [a, b]) (b := [f])
theorem parts_ne {p c a : Addr} (h1 : @Ne Nat p a) (h2 : @Ne Nat c a) : ∀ x ∈ [p, c], x ≠ a := by
  intro x hx
  simp only [List.mem_cons, List.not_mem_nil, or_false] at hx
  rcases hx with rfl | rfl
  · exact h1
  · exact h2
theorem PartsJ.elim {p c : Addr} {cs : List Value} {n : Nat} {fo : Addr} {bm mm : Str → Option Value} {P0 : Int} {i : Nat} {nx : List (Addr × Obj)} {g h : Heap} {L I : Addr} {oI : Obj} (H : PartsJ p c cs n fo bm P0 i mm nx) (hpf : @Ne Nat p fo) (hcf : @Ne Nat c fo) (F : Fr g L h mm) (N : News g L h ((I, oI) :: nx)) (hnx : ∀ q ∈ nx, q.1 ≠ I) {P : Prop}
    (k : ∀ e pos pt res rt vs fe nd ps a0 b0, let mp : Str → Option Value := fun y => if y = Str.ofString "turn" then a0 else if y = Str.ofString "way" then b0 else bm y
      let rs : List (Addr × Obj) := (I, oI) :: (fo, listOf (vs : List Value).toArray fe) :: nd
      let nw : List (Addr × Obj) := (p, listOf #[.ref c, .int pos pt, .int res rt] e) :: (c, listOf cs.toArray n) :: rs
      Fr g L h mp → News g L h nw → AllNe [p, c] rs → @Ne Nat fo I → @Ne Nat p I → @Ne Nat c I → (∀ q ∈ nd, q.1 ≠ I) → 0 ≤ pos → pos ≤ P0 + i → 0 ≤ res → PartsOn (inl nd) vs ps → ps.length = i → (∀ q ∈ ps, goodPart q) → AllNe [p, c] nd → (∀ q ∈ nd, q.1 ≠ fo) → P) : P := by
  obtain ⟨e, pos, pt, res, rt, vs, fe, nd, ps, a0, b0, rfl, h0, h1, h2, hPs, hl, hg, hA, hN, rfl⟩ := H
  have n1 : @Ne Nat fo I := hnx _ (.head _)
  have n2 : @Ne Nat p I := hnx _ (.tail _ (.head _))
  have n3 : @Ne Nat c I := hnx _ (.tail _ (.tail _ (.head _)))
  exact k e pos pt res rt vs fe nd ps a0 b0 F (fun q hq => N q (keep_app (a := [(I, oI)]) (swap_app (a := [_, _]) (b := [_])) q (swap_app (a := [_, _]) (b := [(I, oI)]) q hq))) ⟨parts_ne n2 n3, parts_ne hpf hcf, hA⟩ n1 n2 n3 (fun p hp => hnx p (.tail _ (.tail _ (.tail _ hp)))) h0 h1 h2 hPs hl hg hA hN
theorem words_B21b : True := by
  k_with "ite" => (first | (refine ite_no (by decide) ?_) | (refine ite_yes (by decide) ?_))
  k_with "subscriptTail" => ((with_reducible show wpAny _ _ (subscriptTail _ _ (Value.str _ _) (Value.int (_ - 5) _)) _ _ _); (try dsimp only); k_dflt (refine' item_xy ?ix5 ?ix7 ?_; (case ix5 => with_reducible assumption); (case ix7 => with_reducible assumption)); intro y7 hys')
  k_with "subscriptTail" => ((with_reducible show wpAny _ _ (subscriptTail (Expr.Tuple _ _ _) _ (Value.ref _) (Value.int _ _)) _ _ _); k_dflt (refine' item_strs ?iN ?ip ?iS ?i0 ?i1 ?im ?iz ?_; (case iN => k_asm); (case ip => mem_news); (case iS => k_extra "strsC"); (case i0 => with_reducible assumption); (case i1 => exact (show r' < 5 by omega)); (case im => exact rfl); (case iz => decide)); intro y7 ts' hys')
  trivial
section
variable {w : World} {loose : List Str} {mean : ExcName → Option Value} {mg mb : Str → Option Value} {base : Heap}
theorem head_adr {g h : Heap} {L a : Addr} {o : Obj} {l : List (Addr × Obj)} (_N : News g L h ((a, o) :: l)) : ∃ r, r = a := ⟨_, rfl⟩
theorem law_parts {h : Heap} {p c : Addr} {e : Nat} {pos : Int} {pt : Tok} {res : Int} {rt : Tok} {cs : List Value} {xs : List Int} {n : Nat} {most : Int} {mt : Tok} (hcp : @LT.lt Nat instLTNat c p) (hi : IntsAre cs xs) (hn : cs.length < 100) (hm : 0 < most) (hm1 : most < 10) (hp0 : 0 ≤ pos) (hp1 : pos < 900000) (hr : 0 ≤ res) :
    FP base h (penL p c e pos pt res rt cs n) → Spec w loose mean mg mb base 358 [.ref p, .int most mt] 4 h (penL p c e pos pt res rt cs n)
      (PartsPost p c cs n pos) False := by
  intro fp
  ktr_enter
  dsimp only [penL] at N'
  refine foldN N' ?_
  clear N'
  intro nw' N'
  k_steps
  obtain ⟨k, rfl⟩ : ∃ k : Nat, r' = k := ⟨r'.toNat, by omega⟩
  have hpf : @Ne Nat p l' := by k_ne
  have hcf : @Ne Nat c l' := by k_ne
  refine' loopR (PartsJ p c cs n l' (fun y => if y = Str.ofString "found" then some (.ref l') else List.lookup y [(Str.ofString "most", Value.int most mt), (Str.ofString "pen", Value.ref p)]) (pos + 1)) (by exact rfl) R' (by omega) (by passes_own) (fun _ _ => rfl) F' (News.subl N' rotP0) ?init ?turn ?done
  case init => exact ⟨_, _, _, _, _, [], 0, [], [], _, _, rfl, by omega, by omega, by omega, .nil, rfl, (fun _ h => nomatch h), True.intro, (fun _ h => nomatch h), mapE2 fun _ _ _ => rfl⟩
  case turn =>
    intro i ti5 m1 nx h5 tk5 I oI hi hJ hnx F5 N5
    clear F' N' R'
    refine hideT fun Qt hQt => ?_
    refine PartsJ.elim hJ hpf hcf F5 N5 hnx ?_
    clear hJ F5 N5 hnx
    intro e5 pos5 pt5 res5 rt5 vs5 fe5 nd ps5 a0 b0 mp rs5 nw5 F' N' hAr n1 n2 n3 hnI hp05 hp15 hr5 hPs hlen hgood hAN hNr
    have sz1 : vs5.length < 100 := by have := All2.len hPs; omega
    k_steps
    all_goals
      refine hQt _ _ ?_
      show TEnd _ _ _ _ _ _ _
      refine' parts_turn (x := y7) (by k_asm) (by k_asm) ?sub n1 n2 n3 hnI ?_ ?_ ?_ ?_ ?_ ?_ ?_ hPs hlen hgood hAN hNr ?gp ?hm
      case sub => top_args
      case gp => first | exact part_sym _ hys' | exact part_act _ hys'
      case hm => exact fun y hy1 hy2 => by simp +zetaDelta only [if_neg hy1, if_neg hy2]
      all_goals first | k_ne | omega
  case done =>
    intro m1 nx h5 tk5 hJ F5 N5
    clear F' N' R'
    obtain ⟨e5, pos5, pt5, res5, rt5, vs5, fe5, nd, ps5, a0, b0, rfl, hp05, hp15, hr5, hPs, hlen, hgood, hAN, hNr, rfl⟩ := hJ
    simp only [penL, List.cons_append, List.nil_append] at N5
    k_steps
    exact leaveC (by k_asm) (by k_asm) fun kp nw => ret _ _ _ _ kp (nw.sub rotP3) ⟨e5, pos5, pt5, res5, rt5, l', vs5, fe5, nd, ps5, rfl, rfl, hp05, by omega, hr5, hPs, by omega, hgood, ⟨parts_ne hpf hcf, hAN⟩, hNr⟩
end
/-- new objects stand apart from the ledger that was -/
noncomputable def Anew (news nd : List (Addr × Obj)) : Prop := ∀ q ∈ nd, ∀ p ∈ news, p.1 ≠ q.1
theorem Anew.all {news nd : List (Addr × Obj)} {xs : List Addr} (h : Anew news nd) (hx : ∀ x ∈ xs, ∃ o, (x, o) ∈ news) : AllNe xs nd := by
  induction nd with
  | nil => exact True.intro
  | cons q r ih => exact ⟨fun x hxx => by obtain ⟨o, ho⟩ := hx x hxx; exact h q (.head _) _ ho, ih fun q hq => h q (.tail _ hq)⟩
theorem Anew.ne {news nd : List (Addr × Obj)} {a b : Addr} {o : Obj} (h : Anew news ((b, o) :: nd)) {o' : Obj} (hm : (a, o') ∈ news) : @Ne Nat a b := h _ (.head _) _ hm
theorem Anew.tail {news nd : List (Addr × Obj)} {q : Addr × Obj} (h : Anew news (q :: nd)) : Anew news nd := fun p hp => h p (.tail _ hp)
section
variable {w : World} {loose : List Str} {mean : ExcName → Option Value} {mg mb : Str → Option Value} {base : Heap}
variable {A A₀ : Around} {env : Env} {frs : List Env} {g : Heap} {L : Addr} {m : Str → Option Value} {news rest : List (Addr × Obj)} {Q E : Value → Shared → Prop} {dp un : Nat} {gd : Option (List Code)} {hp : Heap} {gn : Array GenState} {dr : Drawn} {tk : Nat} {os : OsState}
variable {p c : Addr} {e : Nat} {pos : Int} {pt : Tok} {res : Int} {rt : Tok} {cs : List Value} {xs : List Int} {n : Nat} {most : Int} {mt : Tok}
theorem parts_use (hcp : @LT.lt Nat instLTNat c p) (hi : IntsAre cs xs) (hn : cs.length < 100) (hm : 0 < most) (hm1 : most < 10) (hp0 : 0 ≤ pos) (hp1 : pos < 900000) (hr : 0 ≤ res)
    (X : (frag.heap_1 w.params).In base) (T : Top view loose mean mg mb base) (B : Below A₀ base frs g) (F : Fr g L hp m) (N : News g L hp news)
    (hA : A = Ar dp un gd (env :: frs)) (hL : env.frame = some L) (hke : env.scope.kind ≠ .module) (hd : dp + 4 < recursionLimit) (hu : un + 8 * 4 < cLine)
    (P : Pick (penL p c e pos pt res rt cs n) news rest) (hne : AllNe [p, c] rest)
    (ret : ∀ (e' : Nat) (pos' : Int) (pt' : Tok) (res' : Int) (rt' : Tok) (a' : Addr) (vs' : List Value) (fe' : Nat) (nd' : List (Addr × Obj)) (ps' : List Part) (h' : Heap) (tk' : Nat), 0 ≤ pos' → pos' ≤ pos + 11 → 0 ≤ res' → PartsOn (inl nd') vs' ps' → ps'.length < 10 → (∀ q ∈ ps', goodPart q) → vs'.length < 10 →
      Anew news ((a', listOf vs'.toArray fe') :: nd') → AllNe [p, c] nd' → (∀ q ∈ nd', q.1 ≠ a') → Fr g L h' m → News g L h' ((p, listOf [.ref c, .int pos' pt', .int res' rt'].toArray e') :: (c, listOf cs.toArray n) :: (a', listOf vs'.toArray fe') :: (nd' ++ rest)) → Q (.ref a') ⟨h', gn, dr, tk', os⟩) :
    wpAny (model prg w) A (call (.ref 358) [.ref p, .int most mt]) Q E ⟨hp, gn, dr, tk, os⟩ :=
  useP (s := ⟨hp, gn, dr, tk, os⟩) (law_parts hcp hi hn hm hm1 hp0 hp1 hr) X T B F N hA hL hke hd hu P hne (fun v h' tk' news' F' N' hf' _ po => by
    obtain ⟨e', pos', pt', res', rt', a', vs', fe', nd', ps', rfl, rfl, a2, a3, a4, hPs, hpl, hgp, hAp, hNp⟩ := po
    refine ret e' pos' pt' res' rt' a' vs' fe' nd' ps' h' tk' a2 a3 a4 hPs hpl hgp (by have := All2.len hPs; omega) (fun q hq p' hp' => ?_) hAp.2 hNp F' (by simpa [penL] using N')
    rcases hf' q (List.mem_append.mpr (.inr hq)) with z | z
    · exact absurd z (hAp.all q hq)
    · exact z p' hp') fun f => f.elim
end
theorem words_B22 : True := by
  k_with_none
  k_with "ktr_room" =>
    ((try simp only [depth_under_make, depth_under_kw, depth_in1, depth_deeper]); (try dsimp only [Ar]); omega)
  k_with "ktr_units" =>
    ((try simp only [units_in1, units_deeper, Around.mark_units]); (try dsimp only [Ar]); omega)
  k_with "ktr_enter" =>
    (
      intro frs dp un gd s R hs G hap hd hu ret err
      subst hs
      have X := G.X
      have T := G.T
      k_dflt (
        refine' enterP G _ ?k1 hap ?k3 ?k4 ?k5 ?k6 ?k8 ?k7 ?_ ?c2 ?c3 ?c4 ?c5
        (case k3 => k_is)
        (case k4 => k_is)
        (case k1 => assumption)
        (case k5 => omega)
        (case k6 => exact rfl)
        (case k8 => (refine' zr_of ?zra ?zrb; (case zra => (dsimp only [List.map_cons, List.map_nil]; try exact rfl)); (case zrb => first | exact zr1 | exact zr2 | exact zr3 | exact zr4 | exact zr5 | exact zr6 | exact zr7 | exact zr8)))
        (case k7 => exact locs rfl)
        (case c2 => exact rfl)
        (case c3 => exact rfl)
        (case c4 => exact rfl)
        (case c5 => decide)
        k_whole
        intro g' L' h' tk' gk' F' N' B' X' T'
        (try dsimp only [mled] at N')
        (try dsimp only)
        (try k_fold)))
  k_with "ktr_step" =>
    (
      intro frs dp un gd s R hs G hap hd hu ret err
      subst hs
      have X := G.X
      have T := G.T
      have Xs : (frag.heap_1 w.params).In s.heap := X.keeps G.st
      k_dflt (
        refine' enter G _ ?k1 hap ?k3 ?k4 ?k5 ?k6 ?k7 ?_ ?c2 ?c3 ?c4 ?c5
        (case k3 => k_is)
        (case k4 => k_is)
        (case k1 => assumption)
        (case k5 => omega)
        (case k6 => first | exact BindsTo.of_eq rfl | exact binds_K Xs rfl (by k_is) rfl rfl rfl)
        (case k7 => exact locs rfl)
        (case c2 => exact rfl)
        (case c3 => exact rfl)
        (case c4 => exact rfl)
        (case c5 => decide)
        k_whole
        intro g' L' h' gk' F' N' B' X' T'
        (try dsimp only [mled] at N')
        (try dsimp only)
        (try k_fold)))
  k_with "exec Raise some none" =>
    (k_dflt (refine' Raise_ge X T B' ?F X' T' ?d ?u ?a ?b ?c ?_; (case F => k_asm); (case d => ktr_room); (case u => ktr_units); (case a => exact rfl); (case b => exact rfl); (case c => exact rfl)))
  k_with "k_room" =>
    ktr_room
  k_with "call type:range" =>
    (k_dflt (refine' range1_rows ?F ?N ?_; (case F => k_asm); (case N => k_asm); intro h' tk' t1' u1' v1' R' F' N' kp'))
  k_with "exec For" =>
    (k_dflt (refine' For_own ?_ ?s; (case s => intro _; rfl)))
  k_with "ktr_rel" =>
    (
      (case F => k_asm)
      (case N => k_asm)
      (case A => exact rfl)
      (case L => exact rfl)
      (case K => intro h9; cases h9)
      (case d => ktr_room)
      (case u => ktr_units)
      (case e => intro h9; cases h9)
      intro h' tk' F' N'
      (try k_sweep))
  k_with "ktn_open" =>
    first | exact Rm.head | (apply Rm.tail; ktn_open)
  k_with "tb_start" =>
    first | exact Pick.nil | (refine' Pick.cons ?pka ?pkb; (case pka => ktn_open); (case pkb => tb_start))
  k_with "k_memK" =>
    first | exact ne0 | (refine ne1 ?x ?_; (case x => ((try dsimp only); omega)); k_memK)
  k_with "k_allIn" =>
    first | exact True.intro | (refine And.intro ?h ?_; (case h => k_memK); k_allIn)
  k_with "tb_rel" =>
    (
      (case F => k_asm)
      (case N => k_asm)
      (case A => exact rfl)
      (case L => exact rfl)
      (case K => intro h9; cases h9)
      (case d => ktr_room)
      (case u => ktr_units)
      (case e => intro h9; cases h9)
      (case P => tb_start)
      (case ne => k_allIn))
  k_with "compareOp In str ref" =>
    (k_dflt (refine' in_list_strs ?l ?i ?_; (case l => exact isL (by k_asm) (by k_mem)); (case i => assumption)))
  k_with "compareOp NotIn str ref" =>
    (k_dflt (refine' notin_list_strs ?l ?i ?_; (case l => exact isL (by k_asm) (by k_mem)); (case i => assumption)))
  k_with "call builtin:list.append" =>
    (k_dflt (refine' append_L ?k1 ?k2 ?k3 ?z ?_; (case k1 => k_asm); (case k2 => k_asm); (case k3 => k_upd); (case z => first | omega | (simp only [List.length_append, List.length_cons, List.length_nil]; omega)); k_whole); intro h' F' N'; (try k_sweep))
  k_with "call ref" =>
    (k_dflt (
      (first
      | (refine' use0 (is_kept ?a) X T B' ?F ?N ?A ?L ?K ?d ?u ?_ ?e; (case a => assumption))
      | (refine' use0 (is_literal ?a) X T B' ?F ?N ?A ?L ?K ?d ?u ?_ ?e; (case a => assumption))
      | (refine' use0 (check_name ?a ?b) X T B' ?F ?N ?A ?L ?K ?d ?u ?_ ?e; (case a => assumption); (case b => assumption)))
      ktr_rel))
  k_with "boot_fact" =>
    (refine' News.subl ?nwN ?nwS; (case nwN => k_asm); (case nwS => (intro p hp; repeat (first | with_reducible exact hp | with_reducible refine List.mem_cons_of_mem _ ?_))))
  k_with "mem_news" =>
    (with_reducible_and_instances (repeat (first | exact List.Mem.head _ | refine List.Mem.tail _ ?_)))
  k_with "call ref" =>
    (k_dflt (
      (with_reducible show wpAny _ _ (call (Value.ref 207) _) _ _ _)
      (refine' useX (check_name_any ?a) X T B' ?F ?N ?A ?L ?K ?d ?u ?_ ?e)
      (case a => assumption)
      (case F => k_asm)
      (case N => k_asm)
      (case A => exact rfl)
      (case L => exact rfl)
      (case K => intro h9; cases h9)
      (case d => ktr_room)
      (case u => ktr_units)
      (case e => intro hx9 e9 h9 tk9 fl9; refine pass_out gk' (fun p hp => (fp p hp).1) (by k_asm) ?_ fl9 fun h2 f2 => err ?_ _ _ _ f2; boot_fact; nest_cls)
      intro h' tk' F' N' hx'
      (try k_sweep)))
  k_with "kas_types" =>
    exact map4 (a := Str.ofString "text") (b := Str.ofString "kind") (c := Str.ofString "at") (d := Str.ofString "action") rfl rfl rfl rfl (fun y h1 h2 h3 h4 => by simp only [if_neg h1, if_neg h2, if_neg h3, if_neg h4])
  k_with "krn_off" =>
    (
      intro frs dp un gd s R hs G hap hd hu ret err
      subst hs
      have X := G.X
      have T := G.T
      have Xs : (frag.heap_1 w.params).In s.heap := X.keeps G.st
      k_dflt (
        refine' enterPd G _ ?k1 hap ?k3 ?k4 ?k5 ?k6 ?k8 ?k7 ?_ ?c2 ?c3 ?c4 ?c5
        (case k3 => k_is)
        (case k4 => k_is)
        (case k1 => assumption)
        (case k5 => omega)
        (case k6 => exact binds_K Xs rfl (by k_is) rfl rfl rfl)
        (case k8 => (refine' zr_of ?zra ?zrb; (case zra => (dsimp only [List.map_cons, List.map_nil]; try exact rfl)); (case zrb => first | exact zr1 | exact zr2 | exact zr3 | exact zr4 | exact zr5 | exact zr6 | exact zr7 | exact zr8)))
        (case k7 => exact locs rfl)
        (case c2 => exact rfl)
        (case c3 => exact rfl)
        (case c4 => exact rfl)
        (case c5 => decide)
        k_whole
        intro g' L' h' tk' gk' F' N' B' X' T'
        (try dsimp only [mled] at N')
        (try dsimp only)
        (try k_fold)))
  k_with "k_all" =>
    first | exact List.forall_mem_nil _ | with_reducible assumption | exact allLt_ne (by with_reducible assumption) | (refine' List.forall_mem_cons.mpr ⟨?a, ?b⟩; (case a => k_ne); (case b => k_all))
  k_with "k_allIn" =>
    first | exact True.intro | exact hAN | (refine And.intro ?h ?_; (case h => k_memK); k_allIn)
  k_with "call ref" =>
    (k_dflt (
      (with_reducible show wpAny _ _ (call (Value.ref 235) _) _ _ _)
      (refine' useX (check_rule_any ?a ?b ?c ?v ?ps ?po) X T B' ?F ?N ?A ?L ?K ?d ?u ?_ ?e)
      (case a => assumption)
      (case v => assumption)
      (case F => k_asm)
      (case N => k_asm)
      (case A => exact rfl)
      (case L => exact rfl)
      (case K => intro h9; cases h9)
      (case d => ktr_room)
      (case u => ktr_units)
      (case ps => assumption)
      (case po => assumption)
      (case b => exact IsList_Fr (by k_asm) (by assumption))
      (case c => exact PartsOn_Fr (by k_asm) (by assumption))
      (case e => intro hx9 e9 h9 tk9 fl9; first | (rw [hok] at hx9; cases hx9) | (refine pass_out gk' (fun p hp => (fp p hp).1) (by k_asm) ?_ fl9 fun h2 f2 => err ?_ _ _ _ f2; boot_fact; nest_cls))
      intro h' tk' F' N' hx'
      (try k_sweep)))
  k_with "call builtin:len" =>
    ((with_reducible show wpAny _ _ (call (Value.builtin "len") [Value.ref _]) _ _ _); k_dflt (refine' len_L ?l ?z ?_; (case l => first | exact IsList_Fr (by k_asm) (by with_reducible assumption) | exact isL (by k_asm) (by with_reducible k_mem)); (case z => first | omega | (simp only [List.length_append, List.length_cons, List.length_nil]; omega)); k_whole))
  k_with "subscriptTail Name Name ref int" =>
    (k_dflt (refine' item_B ?l ?i ?z ?_; (case l => exact IsList_Fr (by k_asm) (by assumption)); (case i => assumption); (case z => omega); k_whole))
  k_with "exec For Name Call cons nil" =>
    (k_dflt (refine' For_own ?_ ?s; (case s => intro _; rfl)))
  k_with "assign Tuple" =>
    (k_here; (with_reducible show wpAny _ _ (assign (Expr.Tuple _ _ _) _ (Value.ref _)) _ _ _); k_dflt (refine' unpackN_ ?F ?N ?T ?k1 ?k2 ?k3 ?_; (case F => k_asm); (case N => k_asm); (case T => exact IsTup_Fr (by k_asm) (by with_reducible assumption)); (case k1 => exact rfl); (case k2 => exact rfl); (case k3 => exact rfl)); intro h' F' N'; (try k_sweep))
  k_with "ltA" => skip
  trivial
section
variable {w : World} {loose : List Str} {mean : ExcName → Option Value} {mg mb : Str → Option Value} {base : Heap}
theorem enterC {frs : List Env} {dp un : Nat} {gd : Option (List Code)} {s : Shared} {R : Result → Shared → Prop}
    {name qual : Str} {params : Arguments} {body : List Stmt} {scope : Scope} {dV kV doc pm cdv ct oc : Value} {an od : Option Addr} {osl : Array (Option Value)} {f : Addr} {args : Args} {binds : List (Str × Value)}
    (G : Gd w loose mean mg mb base s.heap frs) (fpo : List (Addr × Obj)) (hfp : FP base s.heap fpo) (hap : Off frs fpo)
    (ho : (frag.heap_1 w.params).lookup f = some ⟨oc, od, .func (fnOf name qual params body scope dV kV doc pm an cdv ct), osl⟩) (hcd : codeIn (frag.heap_1 w.params) cdv qual = true) (hroom : dp < recursionLimit)
    (hbind : BindsTo s (fnOf name qual params body scope dV kV doc pm an cdv ct) args binds) (hkind : (binds.all fun y => scope.names.lookup y.1 == some .local || scope.names.lookup y.1 == some .cell) = true) (hnd : ((cellsFrom 0 scope.names []).map (·.1)).Nodup)
    (h : ∀ g L' h₁ tk cells, (∀ b o, s.heap.get? b = some o → b ∉ adr fpo → g.get? b = some o) → Fr g L' h₁ (bindL (envOfC qual scope L' f cdv).kindOf binds fun _ => none) → News g L' h₁ (cells ++ fpo) →
      CellsAre (bindC (envOfC qual scope L' f cdv).kindOf binds fun _ => none) (cellsFrom (L' + 1) scope.names []) cells → Below (Ar dp un gd frs) base frs g → (frag.heap_1 w.params).In g → Top view loose mean mg mb g → (∀ p ∈ fpo, p.1 < L') →
      wpAny (model prg w) ((Ar dp un gd frs).deeper (envOfC qual scope L' f cdv)) (execs body (envOfC qual scope L' f cdv))
        (fun fl s' => LeaveC s.heap g (adr fpo) R (match fl with | .ret v => v | _ => .none) s')
        (fun e s' => wpAny (model prg w) ((Ar dp un gd frs).deeper (envOfC qual scope L' f cdv)) (leaving (envOfC qual scope L' f cdv) e) (fun _ s'' => R (.error e) s'') (fun e' s'' => R (.error e') s'') s')
        { s with heap := h₁, toks := tk })
    (hco : scope.isCoroutine = false) (hgen : scope.isGenerator = false) (hk : scope.kind = .function) : codeAny (model prg w) (Ar dp un gd frs) (.call (.ref f) args) R s := by
  have Xs := G.X.keeps G.st
  refine codeAny_call_function hroom (Xs _ _ ho) rfl hco hgen rfl (codeRec_of Xs hcd) (hbind _ _ _ _ ?_)
  refine wpAny_newFunctionEnv_cells hk (kindsX hkind _) fun env' he s' x => ?_
  subst he
  refine ⟨(G.T.nolimit.keeps G.st).keeps x.toInCall.keep, codeAny_func ?_⟩
  obtain ⟨h₁, tk, rfl, _⟩ := x.done
  have hk₁ := x.toInCall.keep
  have keep : ∀ b o, s.heap.get? b = some o → b ∉ adr fpo → (hideAll s.heap (adr fpo)).get? b = some o := fun b o e q => hideAll_get _ e q
  have nb : ∀ b o, base.get? b = some o → b ∉ adr fpo := fun b o e q => by
    obtain ⟨p, hp, rfl⟩ := List.mem_map.mp q
    rw [(hfp p hp).2] at e; cases e
  have st : base.StaysIn (hideAll s.heap (adr fpo)) := fun b o e => keep b o (G.st b o e) (nb b o e)
  have fl : (hideAll s.heap (adr fpo)).FunFrames base frs := funFrames_hideAll G.fr fun env he a ha hf => by
    obtain ⟨p, hp, rfl⟩ := List.mem_map.mp ha
    exact hap env he p hp hf
  obtain ⟨cells, NC, Y⟩ := Cl.news (h₀ := s.heap) (Nat.le_refl _) fun n c hm => ⟨x.cell n c (lookup_of_mem_nodup (cellsFrom_names scope.names 0 (s.heap.objs.size + 1) [] [] rfl ▸ hnd) hm), x.above n c hm⟩
  refine wpAny_mono (h (hideAll s.heap (adr fpo)) s.heap.objs.size h₁ tk cells keep ⟨x.toInCall.ns, fun b o e => hk₁ b o (of_hideAll _ e), Nat.le_of_eq (hideAll_size _ _)⟩ (fun p hp => ?_) Y ⟨rfl, st, fl⟩ (Frag.In.keeps G.X fun b o e => st b o e) (Top.keeps G.T fun b o e => st b o e) (fun p hp => Heap.lt_size (hfp p hp).1)) (fun fl s' hl => ?_) fun _ _ y => y
  · rcases List.mem_append.mp hp with hp | hp
    · refine ⟨(NC p hp).1, (NC p hp).2.1, ?_⟩
      cases q : (hideAll s.heap (adr fpo)).get? p.1 with
      | none => rfl
      | some o => have := of_hideAll _ q; rw [(NC p hp).2.2] at this; cases this
    · exact ⟨hk₁ _ _ (hfp p hp).1, Nat.ne_of_lt (Heap.lt_size (hfp p hp).1), hideAll_none _ (List.mem_map_of_mem hp)⟩
  · obtain ⟨L', m', news', F', N', k⟩ := hl
    refine k (fun b o e q => F'.keep b o (keep b o e q)) fun p hp => ⟨(N' p hp).1, ?_⟩
    by_cases q : p.1 ∈ adr fpo
    · exact .inl q
    · refine .inr ?_
      cases e : s.heap.get? p.1 with
      | none => rfl
      | some o => have := (N' p hp).2.2; rw [keep _ _ e q] at this; cases this

theorem raise_outX {M : Model} {frs : List Env} {dp un : Nat} {gd : Option (List Code)} {s₀ g h₂ : Heap} {fpo : List (Addr × Obj)} {s' : Shared} {L a e t₀ : Addr} {dd : Option Addr} {m : Str → Option Value} {name : Str} {scope : Scope} {cd : Value} {cl : List (Str × Addr)} {Q : Unit → Shared → Prop} {E : Value → Shared → Prop}
    (gk : ∀ b o, s₀.get? b = some o → b ∉ adr fpo → g.get? b = some o) (fp0 : ∀ p ∈ fpo, s₀.get? p.1 = some p.2) (B : Below (Ar dp un gd frs) base frs g) (F : Fr g L h₂ m) (N : News g L h₂ fpo)
    (hk : Kp [] h₂ s'.heap) (he0 : h₂.get? e = none) (he : s'.heap.get? e = some (excO t₀ dd)) (hkind : scope.kind = .function)
    (err : ∀ h', Fly s₀ frs e h' → Q () { s' with heap := h' }) :
    wpAny M ((Ar dp un gd frs).deeper (envX name scope L a cd cl)) (leaving (envX name scope L a cd cl) (.ref e)) Q E s' := by
  have B' := pushX (env := envX name scope L a cd cl) B F rfl hkind
  have hk' : ∀ b o, h₂.get? b = some o → s'.heap.get? b = some o := fun b o q => hk b o q (fun z => nomatch z)
  have ff := B'.frames
  have hB : h₂.FunFrames (hideAll h₂ ((envX name scope L a cd cl :: frs).filterMap (·.frame))) (envX name scope L a cd cl :: frs) := funFrames_hide ff fun env he b hb => List.mem_filterMap.mpr ⟨env, he, hb⟩
  have st := stays_to gk fp0 F N
  refine wpAny_leaving_firstW (a0 := .ref t₀) (base := hideAll h₂ ((envX name scope L a cd cl :: frs).filterMap (·.frame))) (outer := frs) (L := L) rfl (hB.of_keeps fun b o q _ => ⟨o, hk' b o q, rfl⟩) rfl he (fun b o q => hk' _ _ (of_hideAll _ q)) ?_ rfl rfl rfl fun h' hL => ?_
  · cases q : (hideAll h₂ ((envX name scope L a cd cl :: frs).filterMap (·.frame))).get? e with
    | none => rfl
    | some o => rw [of_hideAll _ q] at he0; cases he0
  · obtain ⟨k1, ⟨_, _, k2⟩, k3, k4⟩ := hL
    refine err h' ⟨⟨hideAll h₂ ((envX name scope L a cd cl :: frs).filterMap (·.frame)), .ref t₀, fun b o q hb => ?_, k1, ?_, k2, k3⟩, ?_⟩
    · refine hideAll_get _ (st b o q).1 fun z => ?_
      rw [List.filterMap_cons] at z
      rcases List.mem_cons.mp z with z | z
      · exact (st b o q).2 z
      · exact hb z
    · cases q : (hideAll h₂ ((envX name scope L a cd cl :: frs).filterMap (·.frame))).get? e with
      | none => rfl
      | some o => rw [of_hideAll _ q] at he0; cases he0
    · exact (Heap.UpToSlots.of_keeps fun b o q => hk' _ _ (st b o q).1).trans k4

theorem pass_outX {M : Model} {frs : List Env} {dp un : Nat} {gd : Option (List Code)} {s₀ g h₂ : Heap} {fpo : List (Addr × Obj)} {s' : Shared} {L a e : Addr} {m : Str → Option Value} {name : Str} {scope : Scope} {cd : Value} {cl : List (Str × Addr)} {Q : Unit → Shared → Prop} {E : Value → Shared → Prop}
    (gk : ∀ b o, s₀.get? b = some o → b ∉ adr fpo → g.get? b = some o) (fp0 : ∀ p ∈ fpo, s₀.get? p.1 = some p.2) (F : Fr g L h₂ m) (N : News g L h₂ fpo)
    (fl : Fly h₂ (envX name scope L a cd cl :: frs) e s'.heap)
    (err : ∀ h', Fly s₀ frs e h' → Q () { s' with heap := h' }) :
    wpAny M ((Ar dp un gd frs).deeper (envX name scope L a cd cl)) (leaving (envX name scope L a cd cl) (.ref e)) Q E s' := by
  obtain ⟨⟨B, a0, hB, hf⟩, hu⟩ := fl
  have st := stays_to gk fp0 F N
  refine wpAny_leaves_onW (outer := frs) (L := L) rfl rfl hf fun h' hf' hu' => err h' ⟨⟨B, a0, fun b o q hb => hB b o (st b o q).1 fun z => ?_, hf'⟩, ((Heap.UpToSlots.of_keeps fun b o q => (st b o q).1).trans hu).trans hu'⟩
  rw [List.filterMap_cons] at z
  rcases List.mem_cons.mp z with z | z
  · exact (st b o q).2 z
  · exact hb z

theorem Raise_geX {frs : List Env} {dp un : Nat} {gd : Option (List Code)} {g : Heap} {s : Shared} {L a : Addr} {m : Str → Option Value} {name : Str} {scope : Scope} {cd : Value} {cl : List (Str × Addr)} {np cpos pos : Pos} {e₀ : PySem.Expr} {Q : Flow → Shared → Prop} {E : Value → Shared → Prop}
    (X : (frag.heap_1 w.params).In base) (T : Top view loose mean mg mb base) (B : Below (Ar dp un gd frs) base frs g) (F : Fr g L s.heap m) (X' : (frag.heap_1 w.params).In g) (T' : Top view loose mean mg mb g)
    (hd : dp + 4 < recursionLimit) (hu : un + 8 * 4 < cLine)
    (hk : scope.kind = .function) (hx : (envX name scope L a cd cl).kindOf "GrammarError" = some .globalImplicit)
    (he : starEach [e₀] (envX name scope L a cd cl) = [(false, PySem.eval e₀ (envX name scope L a cd cl))])
    (h : wpAny (model prg w) ((Ar dp un gd frs).deeper (envX name scope L a cd cl)) (spliced (backTo cpos (starEach [e₀] (envX name scope L a cd cl)))) (GeEnd g L E) E s) :
    wpAny (model prg w) ((Ar dp un gd frs).deeper (envX name scope L a cd cl)) (PySem.exec (.Raise (some (.Call (.Name "GrammarError" np) [e₀] [] cpos)) none pos) (envX name scope L a cd cl)) Q E s := by
  rw [arm_exec_Raise]
  refine wpAny_bind (wpAny_standAt ?_)
  have hcB : (Value.ref 59 :: exBm).contains (.type "BaseException") = true := by decide
  simp only [evalOpt, Option.map]
  unfold raiseStmt
  refine wpAny_bind (wpAny_bind (wpAny_Call_ofName (nameX_K F X' (topRead_of T') (v := .ref 59) (by k_is) ?_ hk hx)))
  refine callWith_K (f := .ref 59) X' (by k_is) ?_ he rfl
  refine wpAny_mono h (fun vs s₂ h₂ => ?_) fun _ _ y => y
  obtain ⟨x, t, m₂, rfl, F₂, k₂⟩ := h₂
  have B₂ := pushX (env := envX name scope L a cd cl) B F₂ rfl hk
  refine ⟨X'.keeps F₂.keep, ?_⟩
  refine call_ge (dp := dp + 1) (un := un + 3) (gd := gd) (frs := envX name scope L a cd cl :: frs) ⟨X, T, fun b o q => B₂.stays b o q, B₂.frames⟩ (by omega) (by omega) fun h' e t₀ dd tk' kp he0 he' => ?_
  have hE := k₂ h' e t₀ (some dd) tk' kp he0 he'
  obtain ⟨nm, q, bs, sn, sub, ab, col, d5, k0, k1, k2, k3, k5, hC⟩ := cls59o (w := w) (h := h') ((X'.keeps F₂.keep).keeps fun b o q => kp b o q (fun z => nomatch z))
  obtain ⟨hp, g2, dr, tk, os⟩ := s₂
  dsimp only at *
  repeat (first | with_reducible refine wpAny_loadPart_at he' ?_ | with_reducible refine wpAny_loadPart_at hC ?_ | (with_reducible refine wpAny_isSubtype_exc hC ?_; rw [hcB]) | wp_step)
  exact wpAny_raiseNew_none rfl hE
theorem pop0_L {A : Around} {E : Value → Shared → Prop} {s : Shared} {g : Heap} {L D : Addr} {m : Str → Option Value} {news news' : List (Addr × Obj)} {n : Nat} {y : Value} {q : List Value} {u : Tok} {Q : Value → Shared → Prop} (F : Fr g L s.heap m) (N : News g L s.heap news)
    (U : Upd D (listOf (y :: q).toArray n) (listOf q.toArray (n + 1)) news news') (hz : (y :: q).length < 1000000) (h : ∀ h', Fr g L h' m → News g L h' news' → Q y { s with heap := h' }) : wpAny (model prg w) A (call (.builtin "list.pop") [.ref D, .int 0 u]) Q E s :=
  kl_popAt (k := 0) (p := []) (q := q) F N rfl (by simp [seqIndex?]) rfl U (by rw [sizeLine_eq]; simp only [List.length_cons] at hz ⊢; omega) h
theorem extend_L {A : Around} {E : Value → Shared → Prop} {s : Shared} {g : Heap} {L D b : Addr} {m : Str → Option Value} {news news' : List (Addr × Obj)} {n n2 : Nat} {us vs : List Value} {Q : Value → Shared → Prop} (F : Fr g L s.heap m) (N : News g L s.heap news) (hb : (b, listOf vs.toArray n2) ∈ news)
    (U : Upd D (listOf us.toArray n) (listOf (us ++ vs).toArray (n + 1)) news news') (hz : us.length + vs.length < 100000) (hv : 0 < vs.length) (h : ∀ h', Fr g L h' m → News g L h' news' → Q .none { s with heap := h' }) : wpAny (model prg w) A (call (.builtin "list.extend") [.ref D, .ref b]) Q E s := by
  have h1 : us.toArray.size + vs.toArray.size = us.length + vs.length := by rw [List.size_toArray, List.size_toArray]
  have h2 : Builtin.List.listTooLong (us.length + vs.length) = false := by unfold Builtin.List.listTooLong; rw [decide_eq_false_iff_not, sizeLine_eq]; omega
  refine kl_extend (its := us.toArray) (its2 := vs.toArray) F N hb (by simp) (by rw [show vs.toArray.toList = vs from rfl]; omega) U (fun q => ?_) (by rw [sizeLine_eq, show us.toArray.toList = us from rfl]; omega) (by rw [sizeLine_eq, h1]; omega) h
  rw [h1, h2, Bool.and_false] at q
  cases q
/-- a stop for the walk -/
noncomputable def Hold (p : Prop) : Prop := p
theorem hold_ {p : Prop} (h : Hold p) : p := h
/-- a comprehension by an invariant -/
theorem compRestJ {prog : Program} {w : World} {A : Around} {g : Heap} {L : Addr} {m : Str → Option Value} {env : Env} {elt : PySem.Expr} {x : Str} {scope : Scope} {cl : List (Str × Addr)} {s : Shared} {S : List (Addr × Obj) → Prop} {P : Nat → Value → Prop} {Fin : List Value → List (Addr × Obj) → Prop} {n : Nat} (J : Nat → List Value → List (Addr × Obj) → Prop)
    (turn : ∀ i v ys nx I oI C oC D m₂ h tk (E' : Value → Shared → Prop), i < n → P i v → J i ys nx → LCg.NsObj oC m₂ → m₂ x = some v → Fr g L h m → News g L h ((I, oI) :: (C, oC) :: (D, LCg.lst ys) :: nx) → LCg.Off3 I C D nx → ((@Ne Nat I C) ∧ (@Ne Nat I D) ∧ (@Ne Nat C D)) →
      wpAny (model prog w) A (PySem.eval elt (compEnvC scope cl C env)) (LCg.CompEnd g L m { s with heap := h, toks := tk } I oI C oC D (LCg.lst ys) S (fun y nx' => J (i + 1) (ys ++ [y]) nx')) E' { s with heap := h, toks := tk })
    (done : ∀ ys nx, J n ys nx → Fin ys nx) : ∀ (k i : Nat) (ys : List Value) (nx : List (Addr × Obj)), i + k = n → J i ys nx → LCg.CompRest prog w A g L m env elt x scope cl s S P Fin k i ys nx := by
  intro k
  induction k with
  | zero => intro i ys nx e hj; obtain rfl : i = n := by omega
            exact LCg.CompRest.zero (done ys nx hj)
  | succ k ih =>
    intro i ys nx e hj
    refine LCg.CompRest.succ fun v I oI C oC D m₂ h tk E' hP hC hx F N off ne => ?_
    refine wpAny_mono (turn i v ys nx I oI C oC D m₂ h tk E' (by omega) hP hj hC hx F N off ne) (fun y s₂ he => ?_) fun _ _ y => y
    obtain ⟨h', tk', news', e', F', N', o', hS, r⟩ := he
    exact ⟨h', tk', news', e', F', N', o', hS, ih (i + 1) _ _ (by omega) r⟩
end
/- the rules with the new ledger and the new names by a name of their own -/
section
variable {w : World} {loose : List Str} {mean : ExcName → Option Value} {mg mb : Str → Option Value} {base : Heap}
variable {A A₀ : Around} {env : Env} {frs : List Env} {g : Heap} {L : Addr} {m : Str → Option Value} {news rest : List (Addr × Obj)} {Q E : Value → Shared → Prop} {dp un : Nat} {gd : Option (List Code)} {hp : Heap} {gn : Array GenState} {dr : Drawn} {tk : Nat} {os : OsState}
variable {p c : Addr} {e : Nat} {pos : Int} {pt : Tok} {res : Int} {rt : Tok} {cs : List Value} {xs : List Int} {n : Nat} {many most : Int} {mt : Tok}
theorem parts_useL (hcp : @LT.lt Nat instLTNat c p) (hi : IntsAre cs xs) (hn : cs.length < 100) (hm : 0 < most) (hm1 : most < 10) (hp0 : 0 ≤ pos) (hp1 : pos < 900000) (hr : 0 ≤ res)
    (X : (frag.heap_1 w.params).In base) (T : Top view loose mean mg mb base) (B : Below A₀ base frs g) (F : Fr g L hp m) (N : News g L hp news)
    (hA : A = Ar dp un gd (env :: frs)) (hL : env.frame = some L) (hke : env.scope.kind ≠ .module) (hd : dp + 4 < recursionLimit) (hu : un + 8 * 4 < cLine)
    (P : Pick (penL p c e pos pt res rt cs n) news rest) (hne : AllNe [p, c] rest)
    (ret : ∀ (e' : Nat) (pos' : Int) (pt' : Tok) (res' : Int) (rt' : Tok) (a' : Addr) (vs' : List Value) (fe' : Nat) (nd' : List (Addr × Obj)) (ps' : List Part) (h' : Heap) (tk' : Nat), let rs := (a', listOf vs'.toArray fe') :: (nd' ++ rest); let nw : List (Addr × Obj) := (p, listOf [.ref c, .int pos' pt', .int res' rt'].toArray e') :: (c, listOf cs.toArray n) :: rs; AllNe [p, c] rs → (∀ q ∈ news, ∃ o, (q.1, o) ∈ nw) → 0 ≤ pos' → pos' ≤ pos + 11 → 0 ≤ res' → PartsOn (inl nd') vs' ps' → ps'.length < 10 → (∀ q ∈ ps', goodPart q) → vs'.length < 10 →
      Anew news ((a', listOf vs'.toArray fe') :: nd') → AllNe [p, c] nd' → (∀ q ∈ nd', q.1 ≠ a') → Fr g L h' m → News g L h' nw → Q (.ref a') ⟨h', gn, dr, tk', os⟩) :
    wpAny (model prg w) A (call (.ref 358) [.ref p, .int most mt]) Q E ⟨hp, gn, dr, tk, os⟩ :=
  useP (s := ⟨hp, gn, dr, tk, os⟩) (law_parts hcp hi hn hm hm1 hp0 hp1 hr) X T B F N hA hL hke hd hu P hne (fun v h' tk' news' F' N' hf' _ po => by
    obtain ⟨e', pos', pt', res', rt', a', vs', fe', nd', ps', rfl, rfl, a2, a3, a4, hPs, hpl, hgp, hAp, hNp⟩ := po
    refine ret e' pos' pt' res' rt' a' vs' fe' nd' ps' h' tk' ⟨hAp.1, hAp.2.app hne⟩ (keys2 fun q hq => (P.all q hq).imp id fun z => .tail _ (List.mem_append.mpr (.inr z))) a2 a3 a4 hPs hpl hgp (by have := All2.len hPs; omega) (fun q hq p' hp' => ?_) hAp.2 hNp F' (by simpa [penL] using N')
    rcases hf' q (List.mem_append.mpr (.inr hq)) with z | z
    · exact absurd z (hAp.all q hq)
    · exact z p' hp') fun f => f.elim
end
theorem words_B23 : True := by
  k_with_none
  k_with "ktr_room" =>
    ((try simp only [depth_under_make, depth_under_kw, depth_in1, depth_deeper]); (try dsimp only [Ar]); omega)
  k_with "ktr_units" =>
    ((try simp only [units_in1, units_deeper, Around.mark_units]); (try dsimp only [Ar]); omega)
  k_with "ktr_enter" =>
    (
      intro frs dp un gd s R hs G hap hd hu ret err
      subst hs
      have X := G.X
      have T := G.T
      k_dflt (
        refine' enterP G _ ?k1 hap ?k3 ?k4 ?k5 ?k6 ?k8 ?k7 ?_ ?c2 ?c3 ?c4 ?c5
        (case k3 => k_is)
        (case k4 => k_is)
        (case k1 => assumption)
        (case k5 => omega)
        (case k6 => exact rfl)
        (case k8 => (refine' zr_of ?zra ?zrb; (case zra => (dsimp only [List.map_cons, List.map_nil]; try exact rfl)); (case zrb => first | exact zr1 | exact zr2 | exact zr3 | exact zr4 | exact zr5 | exact zr6 | exact zr7 | exact zr8)))
        (case k7 => exact locs rfl)
        (case c2 => exact rfl)
        (case c3 => exact rfl)
        (case c4 => exact rfl)
        (case c5 => decide)
        k_whole
        intro g' L' h' tk' gk' F' N' B' X' T'
        (try dsimp only [mled] at N')
        (try dsimp only)
        (try k_fold)))
  k_with "ktr_step" =>
    (
      intro frs dp un gd s R hs G hap hd hu ret err
      subst hs
      have X := G.X
      have T := G.T
      have Xs : (frag.heap_1 w.params).In s.heap := X.keeps G.st
      k_dflt (
        refine' enter G _ ?k1 hap ?k3 ?k4 ?k5 ?k6 ?k7 ?_ ?c2 ?c3 ?c4 ?c5
        (case k3 => k_is)
        (case k4 => k_is)
        (case k1 => assumption)
        (case k5 => omega)
        (case k6 => first | exact BindsTo.of_eq rfl | exact binds_K Xs rfl (by k_is) rfl rfl rfl)
        (case k7 => exact locs rfl)
        (case c2 => exact rfl)
        (case c3 => exact rfl)
        (case c4 => exact rfl)
        (case c5 => decide)
        k_whole
        intro g' L' h' gk' F' N' B' X' T'
        (try dsimp only [mled] at N')
        (try dsimp only)
        (try k_fold)))
  k_with "exec Raise some none" =>
    (k_dflt (refine' Raise_ge X T B' ?F X' T' ?d ?u ?a ?b ?c ?_; (case F => k_asm); (case d => ktr_room); (case u => ktr_units); (case a => exact rfl); (case b => exact rfl); (case c => exact rfl)))
  k_with "k_room" =>
    ktr_room
  k_with "call type:range" =>
    (k_dflt (refine' range1_rows ?F ?N ?_; (case F => k_asm); (case N => k_asm); intro h' tk' t1' u1' v1' R' F' N' kp'))
  k_with "exec For" =>
    (k_dflt (refine' For_own ?_ ?s; (case s => intro _; rfl)))
  k_with "ktr_rel" =>
    (
      (case F => k_asm)
      (case N => k_asm)
      (case A => exact rfl)
      (case L => exact rfl)
      (case K => intro h9; cases h9)
      (case d => ktr_room)
      (case u => ktr_units)
      (case e => intro h9; cases h9)
      intro h' tk' F' N'
      (try k_sweep))
  k_with "ktn_open" =>
    first | exact Rm.head | (apply Rm.tail; ktn_open)
  k_with "tb_start" =>
    first | exact Pick.nil | (refine' Pick.cons ?pka ?pkb; (case pka => ktn_open); (case pkb => tb_start))
  k_with "k_memK" =>
    first | exact ne0 | (refine ne1 ?x ?_; (case x => ((try dsimp only); omega)); k_memK)
  k_with "k_allIn" =>
    first | exact True.intro | (refine And.intro ?h ?_; (case h => k_memK); k_allIn)
  k_with "tb_rel" =>
    (
      (case F => k_asm)
      (case N => k_asm)
      (case A => exact rfl)
      (case L => exact rfl)
      (case K => intro h9; cases h9)
      (case d => ktr_room)
      (case u => ktr_units)
      (case e => intro h9; cases h9)
      (case P => tb_start)
      (case ne => k_allIn))
  k_with "compareOp In str ref" =>
    (k_dflt (refine' in_list_strs ?l ?i ?_; (case l => exact isL (by k_asm) (by k_mem)); (case i => assumption)))
  k_with "compareOp NotIn str ref" =>
    (k_dflt (refine' notin_list_strs ?l ?i ?_; (case l => exact isL (by k_asm) (by k_mem)); (case i => assumption)))
  k_with "call builtin:list.append" =>
    (k_dflt (refine' append_L ?k1 ?k2 ?k3 ?z ?_; (case k1 => k_asm); (case k2 => k_asm); (case k3 => k_upd); (case z => first | omega | (simp only [List.length_append, List.length_cons, List.length_nil]; omega)); k_whole); intro h' F' N'; (try k_sweep))
  k_with "call ref" =>
    (k_dflt (
      (first
      | (refine' use0 (is_kept ?a) X T B' ?F ?N ?A ?L ?K ?d ?u ?_ ?e; (case a => assumption))
      | (refine' use0 (is_literal ?a) X T B' ?F ?N ?A ?L ?K ?d ?u ?_ ?e; (case a => assumption))
      | (refine' use0 (check_name ?a ?b) X T B' ?F ?N ?A ?L ?K ?d ?u ?_ ?e; (case a => assumption); (case b => assumption)))
      ktr_rel))
  k_with "boot_fact" =>
    (refine' News.subl ?nwN ?nwS; (case nwN => k_asm); (case nwS => (intro p hp; repeat (first | with_reducible exact hp | with_reducible refine List.mem_cons_of_mem _ ?_))))
  k_with "mem_news" =>
    (with_reducible_and_instances (repeat (first | exact List.Mem.head _ | refine List.Mem.tail _ ?_)))
  k_with "call ref" =>
    (k_dflt (
      (with_reducible show wpAny _ _ (call (Value.ref 207) _) _ _ _)
      (refine' useX (check_name_any ?a) X T B' ?F ?N ?A ?L ?K ?d ?u ?_ ?e)
      (case a => assumption)
      (case F => k_asm)
      (case N => k_asm)
      (case A => exact rfl)
      (case L => exact rfl)
      (case K => intro h9; cases h9)
      (case d => ktr_room)
      (case u => ktr_units)
      (case e => intro hx9 e9 h9 tk9 fl9; refine pass_out gk' (fun p hp => (fp p hp).1) (by k_asm) ?_ fl9 fun h2 f2 => err ?_ _ _ _ f2; boot_fact; nest_cls)
      intro h' tk' F' N' hx'
      (try k_sweep)))
  k_with "kas_types" =>
    exact map4 (a := Str.ofString "text") (b := Str.ofString "kind") (c := Str.ofString "at") (d := Str.ofString "action") rfl rfl rfl rfl (fun y h1 h2 h3 h4 => by simp only [if_neg h1, if_neg h2, if_neg h3, if_neg h4])
  k_with "krn_off" =>
    (
      intro frs dp un gd s R hs G hap hd hu ret err
      subst hs
      have X := G.X
      have T := G.T
      have Xs : (frag.heap_1 w.params).In s.heap := X.keeps G.st
      k_dflt (
        refine' enterPd G _ ?k1 hap ?k3 ?k4 ?k5 ?k6 ?k8 ?k7 ?_ ?c2 ?c3 ?c4 ?c5
        (case k3 => k_is)
        (case k4 => k_is)
        (case k1 => assumption)
        (case k5 => omega)
        (case k6 => exact binds_K Xs rfl (by k_is) rfl rfl rfl)
        (case k8 => (refine' zr_of ?zra ?zrb; (case zra => (dsimp only [List.map_cons, List.map_nil]; try exact rfl)); (case zrb => first | exact zr1 | exact zr2 | exact zr3 | exact zr4 | exact zr5 | exact zr6 | exact zr7 | exact zr8)))
        (case k7 => exact locs rfl)
        (case c2 => exact rfl)
        (case c3 => exact rfl)
        (case c4 => exact rfl)
        (case c5 => decide)
        k_whole
        intro g' L' h' tk' gk' F' N' B' X' T'
        (try dsimp only [mled] at N')
        (try dsimp only)
        (try k_fold)))
  k_with "k_all" =>
    first | exact List.forall_mem_nil _ | with_reducible assumption | exact allLt_ne (by with_reducible assumption) | (refine' List.forall_mem_cons.mpr ⟨?a, ?b⟩; (case a => k_ne); (case b => k_all))
  k_with "k_allIn" =>
    first | exact True.intro | exact hAN | (refine And.intro ?h ?_; (case h => k_memK); k_allIn)
  k_with "call ref" =>
    (k_dflt (
      (with_reducible show wpAny _ _ (call (Value.ref 235) _) _ _ _)
      (refine' useX (check_rule_any ?a ?b ?c ?v ?ps ?po) X T B' ?F ?N ?A ?L ?K ?d ?u ?_ ?e)
      (case a => assumption)
      (case v => assumption)
      (case F => k_asm)
      (case N => k_asm)
      (case A => exact rfl)
      (case L => exact rfl)
      (case K => intro h9; cases h9)
      (case d => ktr_room)
      (case u => ktr_units)
      (case ps => assumption)
      (case po => assumption)
      (case b => exact IsList_Fr (by k_asm) (by assumption))
      (case c => exact PartsOn_Fr (by k_asm) (by assumption))
      (case e => intro hx9 e9 h9 tk9 fl9; first | (rw [hok] at hx9; cases hx9) | (refine pass_out gk' (fun p hp => (fp p hp).1) (by k_asm) ?_ fl9 fun h2 f2 => err ?_ _ _ _ f2; boot_fact; nest_cls))
      intro h' tk' F' N' hx'
      (try k_sweep)))
  k_with "call builtin:len" =>
    ((with_reducible show wpAny _ _ (call (Value.builtin "len") [Value.ref _]) _ _ _); k_dflt (refine' len_L ?l ?z ?_; (case l => first | exact IsList_Fr (by k_asm) (by with_reducible assumption) | exact isL (by k_asm) (by with_reducible k_mem)); (case z => first | omega | (simp only [List.length_append, List.length_cons, List.length_nil]; omega)); k_whole))
  k_with "subscriptTail Name Name ref int" =>
    (k_dflt (refine' item_B ?l ?i ?z ?_; (case l => exact IsList_Fr (by k_asm) (by assumption)); (case i => assumption); (case z => omega); k_whole))
  k_with "exec For Name Call cons nil" =>
    (k_dflt (refine' For_own ?_ ?s; (case s => intro _; rfl)))
  k_with "assign Tuple" =>
    (k_here; (with_reducible show wpAny _ _ (assign (Expr.Tuple _ _ _) _ (Value.ref _)) _ _ _); k_dflt (refine' unpackN_ ?F ?N ?T ?k1 ?k2 ?k3 ?_; (case F => k_asm); (case N => k_asm); (case T => exact IsTup_Fr (by k_asm) (by with_reducible assumption)); (case k1 => exact rfl); (case k2 => exact rfl); (case k3 => exact rfl)); intro h' F' N'; (try k_sweep))
  k_with "compareOp NotIn str ref" =>
    (k_dflt (refine' sides_in ?X ?_; (case X => exact Frag.In.keeps X' (Fr.keep (by k_asm)))))
  k_with "compareOp In str ref" =>
    (k_dflt (refine' in_lv ?lvN ?lvp ?lvd ?lvk ?lvo ?_; (case lvN => k_asm); (case lvp => mem_news); (case lvd => assumption); (case lvk => assumption); (case lvo => assumption)))
  k_with "compareOp In str ref" =>
    (k_dflt (refine' in_slice ?lsN ?lsp ?lsn ?_; (case lsN => k_asm); (case lsp => mem_news); (case lsn => assumption)))
  k_with "setItem ref str" =>
    (k_dflt (refine' kda_set (knd := _root_.PySem.strKind _ _) ?ksF ?ksN ?ksU ?ksd (strKind_is _ _ _ _) ?ksz ?_; (case ksF => k_asm); (case ksN => k_asm); (case ksU => k_updF); (case ksd => k_asm); (case ksz => rw [sizeLine_eq]; omega)); intro h' o' F' N' hd'; (try dsimp only at N'))
  k_with "tlg_ne" =>
    (
      intro frs dp un gd s R hs G hap hd hu ret
      subst hs
      have X := G.X
      have T := G.T
      k_dflt (
        refine' enterT G _ ?k1 hap ?k3 ?k4 ?k5 ?k6 ?k8 ?k7 ?_ ?c2 ?c3 ?c4 ?c5
        (case k3 => k_is)
        (case k4 => k_is)
        (case k1 => assumption)
        (case k5 => omega)
        (case k6 => exact rfl)
        (case k8 => (refine' zr_of ?zra ?zrb; (case zra => (dsimp only [List.map_cons, List.map_nil]; try exact rfl)); (case zrb => first | exact zr1 | exact zr2 | exact zr3 | exact zr4 | exact zr5 | exact zr6 | exact zr7 | exact zr8)))
        (case k7 => exact locs rfl)
        (case c2 => exact rfl)
        (case c3 => exact rfl)
        (case c4 => exact rfl)
        (case c5 => decide)
        k_whole
        intro g' L' h' tk' gk' hkT hfT F' N' B' X' T'
        (try dsimp only [mled] at N')
        (try dsimp only)
        (try k_fold)))
  k_with "ite" =>
    (first | (refine ite_no (by decide) ?_) | (refine ite_yes (by decide) ?_))
  k_with "top_name" =>
    (
      intro frs dp un gd s R hs G hap hd hu ret err
      subst hs
      have X := G.X
      have T := G.T
      have Xs : (frag.heap_1 w.params).In s.heap := X.keeps G.st
      k_dflt (
        refine' enterC G _ ?k1 hap ?k3 ?k4 ?k5 ?k6 ?k7 ?k8 ?_ ?c2 ?c3 ?c4
        (case k3 => k_is)
        (case k4 => k_is)
        (case k1 => assumption)
        (case k5 => omega)
        (case k6 => exact BindsTo.of_eq rfl)
        (case k7 => exact rfl)
        (case k8 => decide +kernel)
        (case c2 => exact rfl)
        (case c3 => exact rfl)
        (case c4 => exact rfl)
        k_whole
        intro g' L' h' tk' cells' gk' F' N' Y' B' X' T' l1
        (try dsimp only [penL, booksL, List.cons_append, List.nil_append] at l1)
        (try k_lt l1)
        k_cells Y'
        (try simp only [List.cons_append, List.nil_append] at N')
        (try dsimp only)
        (try k_fold)))
  k_with "exec Raise some none" =>
    (k_dflt (refine' Raise_geX X T B' ?F X' T' ?d ?u ?a ?b ?c ?_; (case F => k_asm); (case d => ktr_room); (case u => ktr_units); (case a => exact rfl); (case b => exact rfl); (case c => exact rfl)))
  k_with "compareOp NotEq ref ref" =>
    (k_dflt (refine' ne_nil ?l ?b ?u ?_ ?_; (case l => exact isL' (by k_asm) (by k_mem)); (case b => exact isLn (by k_asm) (by k_mem)); (case u => ktr_units)) <;> (intro hnil; (try have hnl9 := List.length_pos_iff.mpr hnil)))
  k_with "subscriptTail" =>
    ((with_reducible show wpAny _ _ (subscriptTail (Expr.Tuple _ _ _) _ (Value.ref _) (Value.int _ _)) _ _ _); k_dflt (refine' item_any9 ?iN ?ip ?i0 ?i1 ?iz ?_; (case iN => k_asm); (case ip => mem_news); (case i0 => first | with_reducible assumption | omega); (case i1 => first | assumption | (simp only [List.length_cons, List.length_nil]; omega)); (case iz => first | decide | exact of_decide_eq_true rfl | (simp only [List.length_cons, List.length_nil]; omega)); intro v9 hv9))
  k_with "exec Assign cons ListComp" =>
    (k_dflt (refine LCg.Assign_ListComp_U (F₀ := by k_asm) (by rfl) (by with_unfolding_all rfl) (by with_unfolding_all rfl) (by decide) (by rfl) (by decide) (by rfl) (by rfl) (by rfl) ?_))
  k_with "eval ListComp" =>
    (k_dflt (refine LCg.ListComp_U (F₀ := by k_asm) (by with_unfolding_all rfl) (by decide) (by rfl) (by decide) (by rfl) ?_))
  k_with "call builtin:list.pop" =>
    ((try dsimp only [List.cons_append, List.nil_append]); (with_reducible show wpAny _ _ (call (Value.builtin _) [Value.ref _, Value.int 0 _]) _ _ _); k_dflt (refine' pop0_L ?xpF ?xpN ?xpU ?xpz ?_; (case xpF => k_asm); (case xpN => k_asm); (case xpU => k_upd); (case xpz => (simp only [List.length_cons, List.length_drop]; omega))); intro h' F' N')
  k_with "call builtin:list.extend" =>
    ((try dsimp only [List.cons_append, List.nil_append]); (with_reducible show wpAny _ _ (call (Value.builtin _) [Value.ref _, Value.ref _]) _ _ _); k_dflt (refine' extend_L ?xeF ?xeN ?xeb ?xeU ?xez ?xey ?_; (case xeF => k_asm); (case xeN => k_asm); (case xeb => mem_news); (case xeU => k_upd); (case xez => omega); (case xey => omega)); intro h' F' N')
  k_with "ite" =>
    (first | (refine ite_no (by decide) ?_) | (refine ite_yes (by decide) ?_) | ((with_reducible show if (decide (_ = _)) = true then _ else _); first | (refine ite_no (decide_eq_false (by omega)) ?_) | (refine ite_yes (decide_eq_true (by omega)) ?_)) | ((with_reducible show if (_ == _) = true then _ else _); first | (refine ite_no (beq_eq_false_iff_ne.mpr (by omega)) ?_) | (refine ite_yes (beq_iff_eq.mpr (by omega)) ?_)))
  k_with "call builtin:len" =>
    ((with_reducible show wpAny _ _ (call (Value.builtin "len") [Value.ref _]) _ _ _); k_dflt (refine' len_L ?ll ?lz ?_; (case ll => (refine' isL ?lN ?lm; (case lN => k_asm); (case lm => mem_news))); (case lz => omega); k_whole))
  k_with "CompSrc" =>
    refine hold_ ?_
  k_with "kat_tups" =>
    first | with_reducible_and_instances exact List.Mem.head _ | (refine List.Mem.tail _ ?_; kat_tups) | (refine List.mem_append.mpr (Or.inl ?_); kat_tups) | (refine List.mem_append.mpr (Or.inr ?_); kat_tups) | with_reducible assumption
  k_with "top_args" =>
    first | exact List.forall_mem_nil _ | (refine List.forall_mem_cons.mpr (And.intro ?_ ?_); kat_tups; top_args) | (refine List.forall_mem_append.mpr (And.intro ?_ ?_); top_args; top_args) | (intro q hq; kat_tups)
  k_with "mem_news" =>
    first | (with_reducible_and_instances (repeat (first | exact List.Mem.head _ | refine List.Mem.tail _ ?_)); done) | kat_tups | ((try dsimp only [penL, booksL, mled, List.cons_append, List.nil_append]); top_args)
  k_with "k_ne" =>
    (refine neN ?_; (try dsimp only); first | with_reducible exact Nat.ne_of_lt (by with_reducible assumption) | with_reducible exact Nat.ne_of_gt (by with_reducible assumption) | with_reducible assumption | with_reducible exact Ne.symm (by with_reducible assumption) | omega)
  k_with "k_memK" =>
    first | exact ne0 | (refine ne1 ?kmx ?_; (case kmx => k_ne); k_memK)
  k_with "ktr_room" =>
    ((try simp only [depth_under_make, depth_under_kw, depth_in1, depth_deeper]); (try dsimp only [Ar]); first | exact room1 (by with_reducible assumption) (by decide) | exact room2 (by with_reducible assumption) (by decide) | omega)
  k_with "ktr_units" =>
    ((try simp only [units_in1, units_deeper, Around.mark_units]); (try dsimp only [Ar]); first | exact units1 (by with_reducible assumption) (by decide) | exact units2 (by with_reducible assumption) (by decide) | exact units3 (by with_reducible assumption) (by decide) | omega)
  k_with "atoms" =>
    first | exact Atoms.nil | (refine' Atoms.str ?amn; (case amn => k_extra "atoms")) | (refine' Atoms.int ?amn; (case amn => k_extra "atoms")) | (refine' Atoms.none ?amn; (case amn => k_extra "atoms")) | (refine' Atoms.name ?amv ?amx ?amd ?amn; (case amv => exact rfl); (case amx => exact rfl); (case amd => decide); (case amn => k_extra "atoms"))
  k_with "spliced" =>
    ((try dsimp only); k_dflt (refine' spliced_atoms ?saF ?sae ?saH ?_ ?sak; (case saF => k_asm); (case sae => exact rfl); (case sak => exact rfl); (case saH => k_extra "atoms"); k_whole))
  k_with "eval Tuple" =>
    ((try dsimp only); k_dflt (refine' tuple_atoms ?saF ?saN ?sae ?saH ?saz ?_ ?sak; (case saF => k_asm); (case sae => exact rfl); (case saN => k_asm); (case sak => exact rfl); (case saH => k_extra "atoms"); (case saz => kmk_size)); intro D' h' F' N' l1; (try k_lt l1); (try k_sweep))
  k_with "eval List" =>
    ((try dsimp only); k_dflt (refine' list_atoms ?saF ?saN ?sae ?saH ?saz ?_ ?sak; (case saF => k_asm); (case sae => exact rfl); (case saN => k_asm); (case sak => exact rfl); (case saH => k_extra "atoms"); (case saz => kmk_size); k_whole); intro l' h' F' N' l1; (try k_lt l1); (try k_sweep))
  k_with "eval Call" =>
    ((try dsimp only); k_dflt (refine' call_atoms ?saF ?saX ?saT ?saE ?sae ?sakp ?saH ?_ ?sax ?sad ?sas ?sap ?sak; (case saF => k_asm); (case saE => exact rfl); (case saX => k_asm); (case saT => k_asm); (case sax => exact rfl); (case sae => k_is); (case sakp => k_is); (case saH => k_extra "atoms"); (case sad => decide); (case sas => exact rfl); (case sap => exact rfl); (case sak => exact rfl); k_whole))
  k_with "eqNo" =>
    first | exact EqC.int_no (by decide) | exact EqC.str_no (by with_reducible assumption) | exact EqC.str_no (by decide +kernel) | exact EqC.int_no (by omega)
  k_with "eqYes" =>
    first | exact EqC.int_yes rfl | exact EqC.str_yes (by with_reducible assumption) | exact EqC.str_yes (by decide +kernel) | exact EqC.int_yes (by omega)
  k_with "exec If" =>
    ((with_reducible show wpAny _ _ (exec (Stmt.If (Expr.Compare (Expr.Name _ _) [CmpOp.Eq] [Expr.Constant _ _ _] _) _ _ _) _) _ _ _); k_dflt (first
      | (refine' if_no ?siF ?sie ?siv ?sin ?_ ?six ?sid ?sik; (case siF => k_asm); (case sie => exact rfl); (case siv => exact rfl); (case sin => k_extra "eqNo"); (case six => exact rfl); (case sid => decide); (case sik => exact rfl); k_whole)
      | (refine' if_yes ?siF ?sie ?siv ?sin ?_ ?six ?sid ?sik; (case siF => k_asm); (case sie => exact rfl); (case siv => exact rfl); (case sin => k_extra "eqYes"); (case six => exact rfl); (case sid => decide); (case sik => exact rfl); k_whole)))
  k_with "kat_tups" =>
    first | with_reducible_and_instances exact List.Mem.head _ | (refine List.Mem.tail _ ?_; kat_tups) | (refine List.mem_append.mpr (Or.inl ?_); kat_tups) | (refine List.mem_append.mpr (Or.inr ?_); kat_tups) | with_reducible assumption | with_reducible_and_instances exact hq | ((with_reducible show List.Mem _ _); with_reducible_and_instances assumption)
  k_with "top_args" =>
    first | exact List.forall_mem_nil _ | (refine List.forall_mem_cons.mpr (And.intro ?_ ?_); kat_tups; top_args) | (refine List.forall_mem_append.mpr (And.intro ?_ ?_); top_args; top_args) | (intro q hq; kat_tups)
  k_with "mem_news" =>
    first | ((with_reducible_and_instances (repeat (first | exact List.Mem.head _ | refine List.Mem.tail _ ?_))); done) | ((with_reducible show _ ∈ _); kat_tups) | ((try dsimp only [penL, booksL, mled, List.cons_append, List.nil_append]); top_args)
  k_with "ltD" =>
    first | with_reducible assumption | exact lt_l1 (by with_reducible assumption) (by kat_tups) | omega
  k_with "k_ne" =>
    (refine neN ?_; (try dsimp only); first | with_reducible assumption | with_reducible exact Ne.symm (by with_reducible assumption) | with_reducible exact Nat.ne_of_lt (by with_reducible assumption) | with_reducible exact Nat.ne_of_gt (by with_reducible assumption) | exact ne_l1 (by with_reducible assumption) (by kat_tups) | exact Ne.symm (ne_l1 (by with_reducible assumption) (by kat_tups)) | exact ne_l1s (by with_reducible assumption) (by kat_tups) | exact Ne.symm (ne_l1s (by with_reducible assumption) (by kat_tups)) | exact ne_lt2 (by with_reducible assumption) (by with_reducible assumption) (by kat_tups) | exact Ne.symm (ne_lt2 (by with_reducible assumption) (by with_reducible assumption) (by kat_tups)) | exact Anew.ne (by with_reducible assumption) (by kat_tups) | exact Ne.symm (Anew.ne (by with_reducible assumption) (by kat_tups)) | omega)
  k_with "k_all" =>
    first | exact List.forall_mem_nil _ | with_reducible assumption | exact tail_l1 (by with_reducible assumption) (by intro q hq; kat_tups) | (refine' List.forall_mem_cons.mpr ⟨?kaa, ?kab⟩; (case kaa => k_ne); (case kab => k_all))
  k_with "k_allIn" =>
    first | exact True.intro | with_reducible assumption | ((with_reducible refine AllNe.app ?_ ?_) <;> k_allIn) | (refine And.intro ?kah ?_; (case kah => k_memK); k_allIn)
  k_with "useC" =>
    (
      (case F => k_asm)
      (case N => k_asm)
      (case A => exact rfl)
      (case L => exact rfl)
      (case K => intro h9; cases h9)
      (case d => ktr_room)
      (case u => ktr_units)
      (case P => tb_start)
      (case ne => k_allIn))
  k_with "dipC" =>
    (
      (case ta => with_reducible assumption)
      (case tb => assumption)
      (case tc => assumption)
      k_extra "useC"
      (case tg => first | with_reducible assumption | omega)
      (case th => first | exact PB.lt6 (by with_reducible assumption) (by with_reducible assumption) (by decide) | exact PB.lt (by with_reducible assumption) (by with_reducible assumption) (by decide) | omega)
      (case ti => first | with_reducible assumption | omega))
  k_with "pbStep" =>
    (have hPB := PB.step (by with_reducible assumption) hp1)
  k_with "eval Tuple" =>
    ((try dsimp only); k_dflt (refine' tuple_atomsL ?saF ?saN ?sae ?saH ?saz ?_ ?sak; (case saF => k_asm); (case sae => exact rfl); (case saN => k_asm); (case sak => exact rfl); (case saH => k_extra "atoms"); (case saz => kmk_size)); intro D' h' nw' F' N' l1; (try k_lt l1); (try k_sweep))
  k_with "eval List" =>
    ((try dsimp only); k_dflt (refine' list_atomsL ?saF ?saN ?sae ?saH ?saz ?_ ?sak; (case saF => k_asm); (case sae => exact rfl); (case saN => k_asm); (case sak => exact rfl); (case saH => k_extra "atoms"); (case saz => kmk_size); k_whole); intro l' h' nw' F' N' l1; (try k_lt l1); (try k_sweep))
  k_with "newTuple" =>
    ((try dsimp only); k_dflt (refine' newTupleL ?F ?N ?_ ?z; (case F => k_asm); (case N => k_asm); (case z => kmk_size)); intro D' h' nw' F' N' l1; (try k_sweep))
  k_with "newList" =>
    ((try dsimp only); k_dflt (refine' newListL ?F ?N ?_ ?z; (case F => k_asm); (case N => k_asm); (case z => kmk_size)); intro D' h' nw' F' N' l1; (try k_sweep))
  k_with "storeName" =>
    ((try dsimp only); k_dflt (refine' storeL ?F ?N ?_ ?a ?b; (case F => k_asm); (case N => k_asm); (case a => exact rfl); (case b => exact rfl); k_whole); intro h' mm' F' N'; (try k_sweep))
  k_with "call ref" =>
    (k_dflt (
      (with_reducible show wpAny _ _ (call (Value.ref 351) _) _ _ _)
      (refine' dip_useL ?ta ?tb ?tc ?td ?tf ?tg ?th ?ti X T B' ?F ?N ?A ?L ?K ?d ?u ?P ?ne ?_)
      k_extra "dipC"
      (case td => first | decide | omega)
      (case tf => first | decide | omega)
      intro r' t' e' pos' pt' res' rt' h' tk' rs' nw' hnr' hky' hr0 hr1 hp0 hp1 hs0 F' N'
      (try k_extra "pbStep")
      (try have h5 := Has.keys (xs := [b.p, b.c, b.bk, b.fl, b.tk]) (by k_extra "hasK") hky')
      (try clear hky')
      (try k_sweep)))
  k_with "hasK" =>
    first | with_reducible assumption | exact Has.pen | (refine' Has.cons ?_; k_extra "hasK")
  k_with "k_allIn" =>
    first | exact True.intro | with_reducible assumption | (refine' Has.allNe ?hhh ?hhl ?_; (case hhl => with_reducible assumption); (case hhh => k_extra "hasK"); k_allIn) | ((with_reducible refine AllNe.app ?_ ?_) <;> k_allIn) | (refine And.intro ?kah ?_; (case kah => k_memK); k_allIn)
  k_with "call ref" =>
    (k_dflt (
      (with_reducible show wpAny _ _ (call (Value.ref 358) _) _ _ _)
      (refine' parts_useL ?ta ?tb ?tc ?td ?tf ?tg ?th ?ti X T B' ?F ?N ?A ?L ?K ?d ?u ?P ?ne ?_)
      k_extra "dipC"
      (case td => first | decide | omega)
      (case tf => first | decide | omega)
      (try (have hPs0 := hPs'; have hpl0 := hpl'; have hgp0 := hgp'; have hA50 := hA5))
      intro e' pos' pt' res' rt' a' vs' fe' nd' ps' h' tk' rs' nw' hnr' hky' hp0 hp1 hs0 hPs' hpl' hgp' hvl hAw' hAt' hNp' F' N'
      (try have hPB := PB.steps (by with_reducible assumption) hp1)
      (try have hA6 := Anew.all (xs := [b.p, b.c, b.bk, b.fl, b.tk]) hAw' (by show Has _ _; k_extra "hasK"))
      (try have hA5 := And.right hA6)
      (try have h5 := Has.keys (xs := [b.p, b.c, b.bk, b.fl, b.tk]) (by k_extra "hasK") hky')
      (try clear hky')
      (try k_sweep)))
  k_with "subscriptTail" =>
    ((with_reducible show wpAny _ _ (subscriptTail _ _ (Value.ref _) (Value.str _ _)) _ _ _); k_dflt (refine' kda_item (knd := _root_.PySem.strKind _ _) ?diN ?dip ?did (strKind_is _ _ _ _) ?div ?_; (case diN => k_asm); (case dip => mem_news); (case did => k_asm); (case div => exact rfl)))
  k_with "eval Tuple" =>
    (k_fold; walk_at "eval Tuple")
  k_with "eval List" =>
    (k_fold; walk_at "eval List")
  k_with "eval BinOp" =>
    (k_fold; walk_at "eval BinOp")
  k_with "eval Call" =>
    (k_fold; walk_at "eval Call")
  k_with "eval Subscript" =>
    (k_fold; walk_at "eval Subscript")
  k_with "hasM" =>
    first | exact Has.nil | (refine' Has.mk ?hmm ?_; (case hmm => mem_news); k_extra "hasM")
  k_with "k_ne" =>
    (refine neN ?_; (try dsimp only); first | with_reducible assumption | with_reducible exact Ne.symm (by with_reducible assumption) | with_reducible exact Nat.ne_of_lt (by with_reducible assumption) | with_reducible exact Nat.ne_of_gt (by with_reducible assumption) | exact ne_l1 (by with_reducible assumption) (by kat_tups) | exact Ne.symm (ne_l1 (by with_reducible assumption) (by kat_tups)) | exact ne_l1s (by with_reducible assumption) (by kat_tups) | exact Ne.symm (ne_l1s (by with_reducible assumption) (by kat_tups)) | exact ne_lt2 (by with_reducible assumption) (by with_reducible assumption) (by kat_tups) | exact Ne.symm (ne_lt2 (by with_reducible assumption) (by with_reducible assumption) (by kat_tups)) | exact Anew.ne (by with_reducible assumption) (by kat_tups) | exact Ne.symm (Anew.ne (by with_reducible assumption) (by kat_tups)) | exact ne_mem (by with_reducible assumption) (by kat_tups) | exact Ne.symm (ne_mem (by with_reducible assumption) (by kat_tups)) | omega)
  k_with "fiveN" =>
    first | exact True.intro | with_reducible assumption | (refine' Has.allNe ?fvh ?fvl ?_; (case fvl => with_reducible assumption); (case fvh => k_extra "hasK"); k_extra "fiveN") | (refine' Has.allNe2 ?fvh ?fvl ?_; (case fvl => with_reducible assumption); (case fvh => k_extra "hasK"); k_extra "fiveN")
  k_with "arith" =>
    first | with_reducible assumption | exact PB.le (by with_reducible assumption) (by decide) | omega
  k_with "strsC" =>
    first | exact StrsAre.nil | (apply StrsAre.cons; k_extra "strsC")
  k_with "subscriptTail" =>
    ((with_reducible show wpAny _ _ (subscriptTail (Expr.Tuple _ _ _) _ (Value.ref _) (Value.int _ _)) _ _ _); k_dflt (refine' item_strs ?iN ?ip ?iS ?i0 ?i1 ?im ?iz ?_; (case iN => k_asm); (case ip => mem_news); (case iS => k_extra "strsC"); (case i0 => with_reducible assumption); (case i1 => with_reducible assumption); (case im => exact rfl); (case iz => decide)); intro ys' ts' hys')
  k_with "subscriptTail" =>
    ((with_reducible show wpAny _ _ (subscriptTail (Expr.List _ _) _ (Value.ref _) (Value.int _ _)) _ _ _); k_dflt (refine' item_strsL ?iN ?ip ?iS ?i0 ?i1 ?iz ?_; (case iN => k_asm); (case ip => mem_news); (case iS => k_extra "strsC"); (case i0 => with_reducible assumption); (case i1 => first | assumption | (simp only [List.length_cons, List.length_nil]; omega)); (case iz => first | decide | (simp only [List.length_cons, List.length_nil]; omega))); intro ys' ts' hys')
  k_with "subscriptTail" =>
    ((with_reducible show wpAny _ _ (subscriptTail _ (Expr.Constant (Const.int 0) _ _) (Value.ref _) (Value.int 0 _)) _ _ _); k_dflt (refine' item_strsL ?iN ?ip ?iS ?i0 ?i1 ?iz ?_; (case iN => k_asm); (case ip => mem_news); (case iS => exact StrsAre.append' (by with_reducible assumption) (StrsAre.cons _ _ StrsAre.nil)); (case i0 => decide); (case i1 => (simp only [List.length_append, List.length_cons, List.length_nil]; omega)); (case iz => (simp only [List.length_append, List.length_cons, List.length_nil]; omega))); intro ys' ts' hys')
  k_with "execs cons" =>
    ((with_reducible show wpAny _ _ (execs (Stmt.If _ _ [] _ :: _) _) _ _ _); k_dflt ((refine' cut ?cuF ?cuN ?_ ?_; (case cuF => k_asm); (case cuN => k_asm)) <;> first | (intro Gq hGn hGr; (with_reducible show wpAny _ _ _ _ _ _)) | (intro h' tk' F' N'; (try k_sweep))))
  k_with "setItem ref str" =>
    (k_dflt (refine' kda_set (knd := _root_.PySem.strKind _ _) ?ksF ?ksN ?ksU ?ksd (strKind_is _ _ _ _) ?ksz ?_; (case ksF => k_asm); (case ksN => k_asm); (case ksU => k_updF); (case ksd => with_reducible assumption); (case ksz => exact Nat.le_of_ble_eq_true rfl)); intro h' o' F' N' hd'; (try dsimp only at N'); refine foldN N' ?_; clear N'; intro nw' N'; (have h5 : Has [b.p, b.c, b.bk, b.fl, b.tk] nw' := by k_extra "hasM"); (try k_sweep))
  k_with "call builtin:list.extend" =>
    ((try dsimp only [List.cons_append, List.nil_append]); (with_reducible show wpAny _ _ (call (Value.builtin _) [Value.ref _, Value.ref _]) _ _ _); k_dflt (refine' extend_L ?xeF ?xeN ?xeb ?xeU ?xez ?xey ?_; (case xeF => k_asm); (case xeN => k_asm); (case xeb => mem_news); (case xeU => k_upd); (case xez => omega); (case xey => omega)); intro h' F' N'; refine foldN N' ?_; clear N'; intro nw' N'; (have h5 : Has [b.p, b.c, b.bk, b.fl, b.tk] nw' := by k_extra "hasM"); (try k_sweep))
  k_with "ltSkip" => skip
  trivial
abbrev booksK (fl tk : Addr) (s x : Int) (st xt : Tok) : List (Str × Value) := [(Str.ofString "free", .ref fl), (Str.ofString "taken", .ref tk), (Str.ofString "start", .int s st), (Str.ofString "expect", .int x xt)]
abbrev booksL (bk : Addr) (bo : Obj) (fl tk : Addr) (fv : List Value) (fe : Nat) (tv : List Value) (te : Nat) : List (Addr × Obj) := [(bk, bo), (fl, listOf fv.toArray fe), (tk, listOf tv.toArray te)]
/-- the addresses of the pen and the books stand apart -/
structure BA where
  p : Addr
  c : Addr
  bk : Addr
  fl : Addr
  tk : Addr
structure BA.Ok (b : BA) : Prop where
  a1 : @LT.lt Nat instLTNat b.c b.p
  a2 : @LT.lt Nat instLTNat b.p b.bk
  a3 : @LT.lt Nat instLTNat b.bk b.fl
  a4 : @LT.lt Nat instLTNat b.fl b.tk
noncomputable def FREE : List Str := [Str.ofString "A", Str.ofString "error", Str.ofString "'+'", Str.ofString "B"]
/-- the books, in the mind: how many names are taken; the flags -/
structure BKS where
  k : Nat
  s : Int
  x : Int
/-- a good call and what it books -/
inductive GoodStep (K : BKS) : Cal → BKS → Prop
  | level (side : Str) (j : Nat) : side ∈ sides → 0 < j → K.k + j ≤ 4 → GoodStep K (.level side ((FREE.drop K.k).take j)) ⟨K.k + j, K.s, K.x⟩
  | start (y : Str) : K.s = 0 → y ∈ [Str.ofString "t", Str.ofString "s"] → GoodStep K (.start y) ⟨K.k, 1, K.x⟩
  | expect (n : Int) : K.x = 0 → GoodStep K (.expect n) ⟨K.k, K.s, 1⟩
  | token (y : Str) : y ∈ [Str.ofString "A", Str.ofString "B", Str.ofString "'-'", Str.ofString "error"] → GoodStep K (.token y) K
  | rule (y : Str) (ps : List Part) (po : Option Str) : y ∈ [Str.ofString "s", Str.ofString "t"] → (∀ q ∈ ps, goodPart q) → ps.length < 10 → (po = none ∨ po = some (Str.ofString "A") ∨ po = some (Str.ofString "'*'")) → GoodStep K (.rule y ps po) K
noncomputable def BooksOn (w : World) (b : BA) (bo : Obj) (fv tv : List Value) (K : BKS) : Prop :=
  (∃ st xt, bo.IsDictOf (_root_.PySem.strKind prg w) (booksK b.fl b.tk K.s K.x st xt)) ∧ StrsAre fv (FREE.drop K.k) ∧ StrsAre tv (FREE.take K.k) ∧ K.k ≤ 4
noncomputable def GoodPost (w : World) (b : BA) (cs : List Value) (n : Nat) (pos : Int) (K : BKS) (v : Value) (nn : List (Addr × Obj)) : Prop :=
  ∃ e pos' pt res rt bo fv fe tv te K' nd c, nn = penL b.p b.c e pos' pt res rt cs n ++ (booksL b.bk bo b.fl b.tk fv fe tv te ++ nd) ∧ 0 ≤ pos' ∧ pos' ≤ pos + 20 ∧ 0 ≤ res ∧ BooksOn w b bo fv tv K' ∧ GoodStep K c K' ∧ CallOn (inl nd) v c ∧ AllNe [b.p, b.c, b.bk, b.fl, b.tk] nd
theorem AllNe.join {a b : List Addr} {nd : List (Addr × Obj)} (h : AllNe a nd) (h' : AllNe b nd) : AllNe (a ++ b) nd := by
  induction nd with
  | nil => exact True.intro
  | cons q r ih => exact ⟨fun x hx => (List.mem_append.mp hx).elim (h.1 x) (h'.1 x), ih h.2 h'.2⟩
theorem fresh_ne {fpA xs : List Addr} {nd led news : List (Addr × Obj)} (hn : AllNe fpA nd) (hf : ∀ p ∈ led ++ nd, p.1 ∈ fpA ∨ ∀ q ∈ news, q.1 ≠ p.1) (hx : ∀ x ∈ xs, ∃ o, (x, o) ∈ news) : AllNe xs nd := by
  have key : ∀ p ∈ nd, ∀ x ∈ xs, x ≠ p.1 := fun p hp x hxx => by
    obtain ⟨o, ho⟩ := hx x hxx
    rcases hf p (List.mem_append.mpr (.inr hp)) with q | q
    · exact absurd q (hn.all p hp)
    · exact q _ ho
  clear hf hn hx
  induction nd with
  | nil => exact True.intro
  | cons q r ih => exact ⟨key q (.head _), ih fun p hp => key p (.tail _ hp)⟩
theorem strs_in {vs : List Value} {ss : List Str} (h : StrsAre vs ss) {i : Nat} {v : Value} (e : vs[i]? = some v) : ∃ x t, v = .str x t ∧ x ∈ ss := by
  obtain ⟨x, t, a, c⟩ := strs_at h e
  exact ⟨x, t, a, List.mem_of_getElem? c⟩
theorem prec_in {t1 t2 : Tok} {i : Nat} {v : Value} (e : ([.none, .none, .str "A" t1, .str "'*'" t2] : List Value)[i]? = some v) : ∃ po, OptS v po ∧ (po = none ∨ po = some (Str.ofString "A") ∨ po = some (Str.ofString "'*'")) := by
  match i, e with
  | 0, e => simp at e; subst e; exact ⟨_, .none, .inl rfl⟩
  | 1, e => simp at e; subst e; exact ⟨_, .none, .inl rfl⟩
  | 2, e => simp at e; subst e; exact ⟨_, .some _ _, .inr (.inl rfl)⟩
  | 3, e => simp at e; subst e; exact ⟨_, .some _ _, .inr (.inr rfl)⟩
  | n + 4, e => simp at e
theorem fourth_obj {g h : Heap} {L a : Addr} {o : Obj} {q1 q2 q3 : Addr × Obj} {l : List (Addr × Obj)} (_N : News g L h (q1 :: q2 :: q3 :: (a, o) :: l)) : ∃ r, r = o := ⟨_, rfl⟩
theorem drop_take {vs : List Value} {k j : Nat} (h : StrsAre vs (FREE.drop k)) : StrsAre (vs.take j) ((FREE.drop k).take j) ∧ StrsAre (vs.drop j) (FREE.drop (k + j)) := by
  refine ⟨h.take' j, ?_⟩
  have := h.drop' j
  rwa [List.drop_drop] at this
theorem take_add' {k j : Nat} : FREE.take (k + j) = FREE.take k ++ (FREE.drop k).take j := by rw [List.take_add]
theorem five_nz {b : BA} {D : Addr} (h1 : @Ne Nat b.p D) (h2 : @Ne Nat b.c D) (h3 : @Ne Nat b.bk D) (h4 : @Ne Nat b.fl D) (h5 : @Ne Nat b.tk D) : ∀ a ∈ [b.p, b.c, b.bk, b.fl, b.tk], a ≠ D := by
  intro a ha
  simp only [List.mem_cons, List.not_mem_nil, or_false] at ha
  rcases ha with rfl | rfl | rfl | rfl | rfl
  all_goals assumption
theorem BA.Ok.all {b : BA} (o : b.Ok) : (@LT.lt Nat instLTNat b.c b.bk) ∧ (@LT.lt Nat instLTNat b.c b.fl) ∧ (@LT.lt Nat instLTNat b.c b.tk) ∧ (@LT.lt Nat instLTNat b.p b.fl) ∧ (@LT.lt Nat instLTNat b.p b.tk) ∧ (@LT.lt Nat instLTNat b.bk b.tk) := by
  obtain ⟨a1, a2, a3, a4⟩ := o
  omega
theorem BA.Ok.cps {b : BA} (o : b.Ok) {P : Prop} (k : (@LT.lt Nat instLTNat b.c b.p) → (@LT.lt Nat instLTNat b.p b.bk) → (@LT.lt Nat instLTNat b.bk b.fl) → (@LT.lt Nat instLTNat b.fl b.tk) → (@LT.lt Nat instLTNat b.c b.bk) → (@LT.lt Nat instLTNat b.c b.fl) → (@LT.lt Nat instLTNat b.c b.tk) → (@LT.lt Nat instLTNat b.p b.fl) → (@LT.lt Nat instLTNat b.p b.tk) → (@LT.lt Nat instLTNat b.bk b.tk) → P) : P := by
  obtain ⟨b1, b2, b3, b4, b5, b6⟩ := o.all
  obtain ⟨a1, a2, a3, a4⟩ := o
  exact k a1 a2 a3 a4 b1 b2 b3 b4 b5 b6
theorem BooksOn.cps {w : World} {b : BA} {bo : Obj} {fv tv : List Value} {K : BKS} (H : BooksOn w b bo fv tv K) {P : Prop} (k : ∀ st xt, bo.IsDictOf (_root_.PySem.strKind prg w) (booksK b.fl b.tk K.s K.x st xt) → StrsAre fv (FREE.drop K.k) → StrsAre tv (FREE.take K.k) → K.k ≤ 4 → P) : P := by
  obtain ⟨⟨st, xt, hbo⟩, hfs, hts, hk4⟩ := H
  exact k st xt hbo hfs hts hk4
theorem three_in {b : BA} {news : List (Addr × Obj)} {o1 o2 o3 : Obj} (h1 : (b.bk, o1) ∈ news) (h2 : (b.fl, o2) ∈ news) (h3 : (b.tk, o3) ∈ news) : ∀ x ∈ [b.bk, b.fl, b.tk], ∃ o, (x, o) ∈ news := by
  intro x hx
  simp only [List.mem_cons, List.not_mem_nil, or_false] at hx
  rcases hx with rfl | rfl | rfl
  · exact ⟨_, h1⟩
  · exact ⟨_, h2⟩
  · exact ⟨_, h3⟩
theorem five_ne {b : BA} {D : Addr} (h1 : @LT.lt Nat instLTNat b.p D) (h2 : @LT.lt Nat instLTNat b.c D) (h3 : @LT.lt Nat instLTNat b.bk D) (h4 : @LT.lt Nat instLTNat b.fl D) (h5 : @LT.lt Nat instLTNat b.tk D) : ∀ a ∈ [b.p, b.c, b.bk, b.fl, b.tk], a ≠ D := by
  intro a ha
  simp only [List.mem_cons, List.not_mem_nil, or_false] at ha
  rcases ha with rfl | rfl | rfl | rfl | rfl
  all_goals exact Nat.ne_of_lt (by assumption)
theorem five_in {b : BA} {news : List (Addr × Obj)} {o1 o2 o3 o4 o5 : Obj} (h1 : (b.p, o1) ∈ news) (h2 : (b.c, o2) ∈ news) (h3 : (b.bk, o3) ∈ news) (h4 : (b.fl, o4) ∈ news) (h5 : (b.tk, o5) ∈ news) : ∀ x ∈ [b.p, b.c, b.bk, b.fl, b.tk], ∃ o, (x, o) ∈ news := by
  intro x hx
  simp only [List.mem_cons, List.not_mem_nil, or_false] at hx
  rcases hx with rfl | rfl | rfl | rfl | rfl
  · exact ⟨_, h1⟩
  · exact ⟨_, h2⟩
  · exact ⟨_, h3⟩
  · exact ⟨_, h4⟩
  · exact ⟨_, h5⟩
section
variable {w : World} {b : BA} {cs : List Value} {n : Nat} {pos pos' res : Int} {pt rt st xt t1 t2 : Tok} {K : BKS} {bo : Obj} {fv tv : List Value} {fe te e fe3 j : Nat} {y : Str} {D1 D2 D3 : Addr}
theorem good_level (hbo : bo.IsDictOf (_root_.PySem.strKind prg w) (booksK b.fl b.tk K.s K.x st xt)) (hfs : StrsAre fv (FREE.drop K.k)) (hts : StrsAre tv (FREE.take K.k)) (h0 : 0 < j) (hj : j ≤ fv.length) (hp0 : 0 ≤ pos') (hp1 : pos' ≤ pos + 20) (hr : 0 ≤ res) (hy : y ∈ sides)
    (hne : AllNe [b.p, b.c, b.bk, b.fl, b.tk] [(D1, tupO [.str "level" t1, .ref D2]), (D2, tupO [.str y t2, .ref D3]), (D3, listOf (fv.take j).toArray fe3)]) :
    GoodPost w b cs n pos K (.ref D1) (penL b.p b.c e pos' pt res rt cs n ++ (booksL b.bk bo b.fl b.tk (fv.drop j) fe (tv ++ fv.take j) te ++ [(D1, tupO [.str "level" t1, .ref D2]), (D2, tupO [.str y t2, .ref D3]), (D3, listOf (fv.take j).toArray fe3)])) := by
  have hk : K.k + j ≤ 4 := by rw [hfs.length, List.length_drop] at hj; simp only [FREE, List.length_cons, List.length_nil] at hj; omega
  obtain ⟨a1, a2⟩ := drop_take (j := j) hfs
  exact ⟨e, pos', pt, res, rt, bo, _, fe, _, te, ⟨K.k + j, K.s, K.x⟩, _, _, rfl, hp0, hp1, hr, ⟨⟨st, xt, hbo⟩, a2, by rw [take_add']; exact hts.append' a1, hk⟩, .level y j hy h0 hk, ⟨D1, D2, D3, t1, t2, _, fe3, rfl, .head _, .tail _ (.head _), .tail _ (.tail _ (.head _)), a1⟩, hne⟩
theorem good_start (hbo : bo.IsDictOf (_root_.PySem.strKind prg w) (booksK b.fl b.tk 1 K.x st xt)) (hfs : StrsAre fv (FREE.drop K.k)) (hts : StrsAre tv (FREE.take K.k)) (hk : K.k ≤ 4) (hz : K.s = 0) (hp0 : 0 ≤ pos') (hp1 : pos' ≤ pos + 20) (hr : 0 ≤ res) (hy : y ∈ [Str.ofString "t", Str.ofString "s"])
    (hne : AllNe [b.p, b.c, b.bk, b.fl, b.tk] [(D1, tupO [.str "start" t1, .str y t2])]) :
    GoodPost w b cs n pos K (.ref D1) (penL b.p b.c e pos' pt res rt cs n ++ (booksL b.bk bo b.fl b.tk fv fe tv te ++ [(D1, tupO [.str "start" t1, .str y t2])])) :=
  ⟨e, pos', pt, res, rt, bo, _, fe, _, te, ⟨K.k, 1, K.x⟩, _, _, rfl, hp0, hp1, hr, ⟨⟨st, xt, hbo⟩, hfs, hts, hk⟩, .start y hz hy, ⟨D1, t1, t2, rfl, .head _⟩, hne⟩
theorem good_expect {x : Int} (hbo : bo.IsDictOf (_root_.PySem.strKind prg w) (booksK b.fl b.tk K.s 1 st xt)) (hfs : StrsAre fv (FREE.drop K.k)) (hts : StrsAre tv (FREE.take K.k)) (hk : K.k ≤ 4) (hz : K.x = 0) (hp0 : 0 ≤ pos') (hp1 : pos' ≤ pos + 20) (hr : 0 ≤ res)
    (hne : AllNe [b.p, b.c, b.bk, b.fl, b.tk] [(D1, tupO [.str "expect" t1, .int x t2])]) :
    GoodPost w b cs n pos K (.ref D1) (penL b.p b.c e pos' pt res rt cs n ++ (booksL b.bk bo b.fl b.tk fv fe tv te ++ [(D1, tupO [.str "expect" t1, .int x t2])])) :=
  ⟨e, pos', pt, res, rt, bo, _, fe, _, te, ⟨K.k, K.s, 1⟩, _, _, rfl, hp0, hp1, hr, ⟨⟨st, xt, hbo⟩, hfs, hts, hk⟩, .expect x hz, ⟨D1, t1, t2, rfl, .head _⟩, hne⟩
theorem good_token (hbo : bo.IsDictOf (_root_.PySem.strKind prg w) (booksK b.fl b.tk K.s K.x st xt)) (hfs : StrsAre fv (FREE.drop K.k)) (hts : StrsAre tv (FREE.take K.k)) (hk : K.k ≤ 4) (hp0 : 0 ≤ pos') (hp1 : pos' ≤ pos + 20) (hr : 0 ≤ res) (hy : y ∈ [Str.ofString "A", Str.ofString "B", Str.ofString "'-'", Str.ofString "error"])
    (hne : AllNe [b.p, b.c, b.bk, b.fl, b.tk] [(D1, tupO [.str "token" t1, .str y t2])]) :
    GoodPost w b cs n pos K (.ref D1) (penL b.p b.c e pos' pt res rt cs n ++ (booksL b.bk bo b.fl b.tk fv fe tv te ++ [(D1, tupO [.str "token" t1, .str y t2])])) :=
  ⟨e, pos', pt, res, rt, bo, _, fe, _, te, K, _, _, rfl, hp0, hp1, hr, ⟨⟨st, xt, hbo⟩, hfs, hts, hk⟩, .token y hy, ⟨D1, t1, t2, rfl, .head _⟩, hne⟩
theorem good_rule {vs : List Value} {ps : List Part} {pv : Value} {po : Option Str} {nd : List (Addr × Obj)} (hbo : bo.IsDictOf (_root_.PySem.strKind prg w) (booksK b.fl b.tk K.s K.x st xt)) (hfs : StrsAre fv (FREE.drop K.k)) (hts : StrsAre tv (FREE.take K.k)) (hk : K.k ≤ 4) (hp0 : 0 ≤ pos') (hp1 : pos' ≤ pos + 20) (hr : 0 ≤ res) (hy : y ∈ [Str.ofString "s", Str.ofString "t"])
    (hPs : PartsOn (inl nd) vs ps) (hg : ∀ q ∈ ps, goodPart q) (hl : ps.length < 10) (hpv : OptS pv po) (hpo : po = none ∨ po = some (Str.ofString "A") ∨ po = some (Str.ofString "'*'"))
    (hne : AllNe [b.p, b.c, b.bk, b.fl, b.tk] ((D1, tupO [.str "rule" t1, .ref D2]) :: (D2, tupO [.str y t2, .ref D3, pv]) :: (D3, listOf vs.toArray fe3) :: nd)) :
    GoodPost w b cs n pos K (.ref D1) (penL b.p b.c e pos' pt res rt cs n ++ (booksL b.bk bo b.fl b.tk fv fe tv te ++ (D1, tupO [.str "rule" t1, .ref D2]) :: (D2, tupO [.str y t2, .ref D3, pv]) :: (D3, listOf vs.toArray fe3) :: nd)) :=
  ⟨e, pos', pt, res, rt, bo, _, fe, _, te, K, _, _, rfl, hp0, hp1, hr, ⟨⟨st, xt, hbo⟩, hfs, hts, hk⟩, .rule y ps po hy hg hl hpo, ⟨D1, D2, D3, t1, t2, _, fe3, pv, rfl, .head _, .tail _ (.head _), .tail _ (.tail _ (.head _)), hPs.mono fun _ _ h => .tail _ (.tail _ (.tail _ h)), hpv⟩, hne⟩
end
theorem free_len {fv : List Value} {k : Nat} (hfs : StrsAre fv (FREE.drop k)) : fv.length < 10 := by rw [hfs.length, List.length_drop]; simp only [FREE, List.length_cons, List.length_nil]; omega
theorem taken_len {tv : List Value} {k : Nat} (hts : StrsAre tv (FREE.take k)) : tv.length < 10 := by rw [hts.length, List.length_take]; simp only [FREE, List.length_cons, List.length_nil]; omega
theorem small_nat {n : Nat} (h : n < 1000000) : Builtin.Range.small 0 (n : Int) 1 = true := by
  have hn : Builtin.Range.rangeSize 0 (n : Int) 1 = (n : Int) := by
    rw [rangeSize_nat]; omega
  unfold Builtin.Range.small
  rw [hn, fits62 0 (by omega) (by omega), fits62 n (by omega) (by omega), fits62 1 (by omega) (by omega), if_pos (by omega), show (n : Int) + (1 - 1) = n by omega, fits62 n (by omega) (by omega), Bool.or_true]; rfl
section
variable {w : World} {loose : List Str} {mean : ExcName → Option Value} {mg mb : Str → Option Value} {base : Heap}
theorem law_good {h : Heap} {b : BA} {bo : Obj} {fv tv : List Value} {fe te : Nat} {e : Nat} {pos : Int} {pt : Tok} {res : Int} {rt : Tok} {cs : List Value} {xs : List Int} {n : Nat} (o : b.Ok) {K : BKS} (hB : BooksOn w b bo fv tv K) (hbs : (b.bk == sysModules) = false) (hi : IntsAre cs xs) (hn : cs.length < 100) (hp0 : 0 ≤ pos) (hp1 : pos < 800000) (hr : 0 ≤ res) :
    FP base h (penL b.p b.c e pos pt res rt cs n ++ booksL b.bk bo b.fl b.tk fv fe tv te) → Spec w loose mean mg mb base 363 [.ref b.p, .ref b.bk] 8 h (penL b.p b.c e pos pt res rt cs n ++ booksL b.bk bo b.fl b.tk fv fe tv te)
      (GoodPost w b cs n pos K) False := by
  refine o.cps ?_
  intro a1 a2 a3 a4 b1 b2 b3 b4 b5 b6
  refine hB.cps ?_
  intro st xt hbo hfs hts hk4
  have hfv : fv.length < 10 := free_len hfs
  have htv : tv.length < 10 := taken_len hts
  intro fp
  have hPB : PB 0 pos pos := PB.start
  top_name
  dsimp only [penL, booksL, List.cons_append, List.nil_append] at N'
  refine foldN N' ?_
  clear N'
  intro nw' N'
  have h5 : Has [b.p, b.c, b.bk, b.fl, b.tk] nw' := by k_extra "hasM"
  (try k_unmd)
  k_fold
  k_steps
  all_goals first
    | exact hGn _ _ (by k_asm) (by k_asm)
    | exact hGn _ _ (by k_asm) (News.subl (by k_asm) fun p hp => .tail _ hp)
    | (refine hGr _ _ ?_; show LeaveC _ _ _ _ _ _)
    | skip
  · have hfv0 : 0 < fv.length := List.length_pos_iff.mpr (by with_reducible assumption)
    obtain ⟨j, hj⟩ : ∃ j : Nat, (1 + r' : Int) = j := ⟨(1 + r').toNat, by omega⟩
    rw [hj] at R'
    refine LCg.CompSrc.range (n := j) (by exact rfl) (by k_asm) N' R' (small_nat (by omega)) (by rw [rangeSize_nat]; omega) (by rw [sizeLine_eq]; omega) ?_
    intro g8
    rename Obj => o9
    refine compRestJ (n := j) (fun i ys nx => ys = fv.take i ∧ ∃ fe8, nx = [(b.p, W.listOf #[Value.ref b.c, Value.int pos' pt', Value.int res' rt'] e'), (b.c, W.listOf cs.toArray n), (l', W.listOf #[] 0), (L' + 1, o9), (b.bk, bo), (b.fl, W.listOf (fv.drop i).toArray fe8), (b.tk, W.listOf tv.toArray te)]) ?turn ?done j 0 [] _ (by omega) ⟨rfl, fe, rfl⟩
    case turn =>
      intro i v ys nx I oI C oC D m₂ h tk E' hi hP hJ hC hx F N off ne
      clear N' R' F'
      obtain ⟨rfl, fe8, rfl⟩ := hJ
      have hil : i < fv.length := by omega
      rw [List.drop_eq_getElem_cons hil] at N off
      refine off3F off N ?_
      clear N off
      intro nw0 nw' offI offC offD off N'
      obtain ⟨_, _, _⟩ := ne
      k_steps
      exact (take_more (List.getElem?_eq_getElem hil)).symm
    case done =>
      rintro ys nx ⟨rfl, fe8, rfl⟩
      clear N' R' F'
      intro D h' tk' F' N' o1
      dsimp only [LCg.lst] at N'
      refine off1F o1 N' ?_
      clear N' o1
      intro nw0 nw' offD N'
      have h50 : Has [b.p, b.c, b.bk, b.fl, b.tk] nw0 := by k_extra "hasM"
      have hjl : (fv.take j).length = j := by rw [List.length_take]; omega
      k_steps
      refine hGr _ _ ?_
      show LeaveC _ _ _ _ _ _
      refine leaveC (by k_asm) (by k_asm) ?_
      intro kp nw
      refine' ret _ _ _ _ kp (nw.sub ?sub) (good_level (y := ys') hbo hfs hts (j := j) ?_ ?_ ?_ ?_ ?_ hys' ?_)
      case sub => (dsimp only [penL, booksL]; top_args)
      all_goals first | k_extra "arith" | k_extra "fiveN"
  all_goals refine leaveC (by k_asm) (by k_asm) ?_
  all_goals intro kp nw
  · refine' ret _ _ _ _ kp (nw.sub ?sub) (good_start (y := ys') (K := K) hd' hfs hts hk4 ?_ ?_ ?_ ?_ (by with_reducible assumption) ?_)
    case sub => (dsimp only [penL, booksL]; top_args)
    all_goals first | k_extra "arith" | k_extra "fiveN"
  · refine' ret _ _ _ _ kp (nw.sub ?sub) (good_expect (K := K) hd' hfs hts hk4 ?_ ?_ ?_ ?_ ?_)
    case sub => (dsimp only [penL, booksL]; top_args)
    all_goals first | k_extra "arith" | k_extra "fiveN"
  · refine' ret _ _ _ _ kp (nw.sub ?sub) (good_token (y := ys') hbo hfs hts hk4 ?_ ?_ ?_ (by with_reducible assumption) ?_)
    case sub => (dsimp only [penL, booksL]; top_args)
    all_goals first | k_extra "arith" | k_extra "fiveN"
  · obtain ⟨po9, hpo9, hpo8⟩ := prec_in (by with_reducible assumption)
    refine' ret _ _ _ _ kp (nw.sub ?sub) (good_rule (y := ys') hbo hfs hts hk4 ?_ ?_ ?_ (by with_reducible assumption) hPs' hgp' hpl' hpo9 hpo8 ?_)
    case sub => (dsimp only [penL, booksL]; top_args)
    all_goals first | k_extra "arith" | k_extra "fiveN"
end
theorem words_B24 : True := by
  k_with_none
  k_with "ktr_room" =>
    ((try simp only [depth_under_make, depth_under_kw, depth_in1, depth_deeper]); (try dsimp only [Ar]); omega)
  k_with "ktr_units" =>
    ((try simp only [units_in1, units_deeper, Around.mark_units]); (try dsimp only [Ar]); omega)
  k_with "ktr_enter" =>
    (
      intro frs dp un gd s R hs G hap hd hu ret err
      subst hs
      have X := G.X
      have T := G.T
      k_dflt (
        refine' enterP G _ ?k1 hap ?k3 ?k4 ?k5 ?k6 ?k8 ?k7 ?_ ?c2 ?c3 ?c4 ?c5
        (case k3 => k_is)
        (case k4 => k_is)
        (case k1 => assumption)
        (case k5 => omega)
        (case k6 => exact rfl)
        (case k8 => (refine' zr_of ?zra ?zrb; (case zra => (dsimp only [List.map_cons, List.map_nil]; try exact rfl)); (case zrb => first | exact zr1 | exact zr2 | exact zr3 | exact zr4 | exact zr5 | exact zr6 | exact zr7 | exact zr8)))
        (case k7 => exact locs rfl)
        (case c2 => exact rfl)
        (case c3 => exact rfl)
        (case c4 => exact rfl)
        (case c5 => decide)
        k_whole
        intro g' L' h' tk' gk' F' N' B' X' T'
        (try dsimp only [mled] at N')
        (try dsimp only)
        (try k_fold)))
  k_with "ktr_step" =>
    (
      intro frs dp un gd s R hs G hap hd hu ret err
      subst hs
      have X := G.X
      have T := G.T
      have Xs : (frag.heap_1 w.params).In s.heap := X.keeps G.st
      k_dflt (
        refine' enter G _ ?k1 hap ?k3 ?k4 ?k5 ?k6 ?k7 ?_ ?c2 ?c3 ?c4 ?c5
        (case k3 => k_is)
        (case k4 => k_is)
        (case k1 => assumption)
        (case k5 => omega)
        (case k6 => first | exact BindsTo.of_eq rfl | exact binds_K Xs rfl (by k_is) rfl rfl rfl)
        (case k7 => exact locs rfl)
        (case c2 => exact rfl)
        (case c3 => exact rfl)
        (case c4 => exact rfl)
        (case c5 => decide)
        k_whole
        intro g' L' h' gk' F' N' B' X' T'
        (try dsimp only [mled] at N')
        (try dsimp only)
        (try k_fold)))
  k_with "exec Raise some none" =>
    (k_dflt (refine' Raise_ge X T B' ?F X' T' ?d ?u ?a ?b ?c ?_; (case F => k_asm); (case d => ktr_room); (case u => ktr_units); (case a => exact rfl); (case b => exact rfl); (case c => exact rfl)))
  k_with "k_room" =>
    ktr_room
  k_with "call type:range" =>
    (k_dflt (refine' range1_rows ?F ?N ?_; (case F => k_asm); (case N => k_asm); intro h' tk' t1' u1' v1' R' F' N' kp'))
  k_with "exec For" =>
    (k_dflt (refine' For_own ?_ ?s; (case s => intro _; rfl)))
  k_with "ktr_rel" =>
    (
      (case F => k_asm)
      (case N => k_asm)
      (case A => exact rfl)
      (case L => exact rfl)
      (case K => intro h9; cases h9)
      (case d => ktr_room)
      (case u => ktr_units)
      (case e => intro h9; cases h9)
      intro h' tk' F' N'
      (try k_sweep))
  k_with "ktn_open" =>
    first | exact Rm.head | (apply Rm.tail; ktn_open)
  k_with "tb_start" =>
    first | exact Pick.nil | (refine' Pick.cons ?pka ?pkb; (case pka => ktn_open); (case pkb => tb_start))
  k_with "k_memK" =>
    first | exact ne0 | (refine ne1 ?x ?_; (case x => ((try dsimp only); omega)); k_memK)
  k_with "k_allIn" =>
    first | exact True.intro | (refine And.intro ?h ?_; (case h => k_memK); k_allIn)
  k_with "tb_rel" =>
    (
      (case F => k_asm)
      (case N => k_asm)
      (case A => exact rfl)
      (case L => exact rfl)
      (case K => intro h9; cases h9)
      (case d => ktr_room)
      (case u => ktr_units)
      (case e => intro h9; cases h9)
      (case P => tb_start)
      (case ne => k_allIn))
  k_with "compareOp In str ref" =>
    (k_dflt (refine' in_list_strs ?l ?i ?_; (case l => exact isL (by k_asm) (by k_mem)); (case i => assumption)))
  k_with "compareOp NotIn str ref" =>
    (k_dflt (refine' notin_list_strs ?l ?i ?_; (case l => exact isL (by k_asm) (by k_mem)); (case i => assumption)))
  k_with "call builtin:list.append" =>
    (k_dflt (refine' append_L ?k1 ?k2 ?k3 ?z ?_; (case k1 => k_asm); (case k2 => k_asm); (case k3 => k_upd); (case z => first | omega | (simp only [List.length_append, List.length_cons, List.length_nil]; omega)); k_whole); intro h' F' N'; (try k_sweep))
  k_with "call ref" =>
    (k_dflt (
      (first
      | (refine' use0 (is_kept ?a) X T B' ?F ?N ?A ?L ?K ?d ?u ?_ ?e; (case a => assumption))
      | (refine' use0 (is_literal ?a) X T B' ?F ?N ?A ?L ?K ?d ?u ?_ ?e; (case a => assumption))
      | (refine' use0 (check_name ?a ?b) X T B' ?F ?N ?A ?L ?K ?d ?u ?_ ?e; (case a => assumption); (case b => assumption)))
      ktr_rel))
  k_with "boot_fact" =>
    (refine' News.subl ?nwN ?nwS; (case nwN => k_asm); (case nwS => (intro p hp; repeat (first | with_reducible exact hp | with_reducible refine List.mem_cons_of_mem _ ?_))))
  k_with "mem_news" =>
    (with_reducible_and_instances (repeat (first | exact List.Mem.head _ | refine List.Mem.tail _ ?_)))
  k_with "call ref" =>
    (k_dflt (
      (with_reducible show wpAny _ _ (call (Value.ref 207) _) _ _ _)
      (refine' useX (check_name_any ?a) X T B' ?F ?N ?A ?L ?K ?d ?u ?_ ?e)
      (case a => assumption)
      (case F => k_asm)
      (case N => k_asm)
      (case A => exact rfl)
      (case L => exact rfl)
      (case K => intro h9; cases h9)
      (case d => ktr_room)
      (case u => ktr_units)
      (case e => intro hx9 e9 h9 tk9 fl9; refine pass_out gk' (fun p hp => (fp p hp).1) (by k_asm) ?_ fl9 fun h2 f2 => err ?_ _ _ _ f2; boot_fact; nest_cls)
      intro h' tk' F' N' hx'
      (try k_sweep)))
  k_with "kas_types" =>
    exact map4 (a := Str.ofString "text") (b := Str.ofString "kind") (c := Str.ofString "at") (d := Str.ofString "action") rfl rfl rfl rfl (fun y h1 h2 h3 h4 => by simp only [if_neg h1, if_neg h2, if_neg h3, if_neg h4])
  k_with "krn_off" =>
    (
      intro frs dp un gd s R hs G hap hd hu ret err
      subst hs
      have X := G.X
      have T := G.T
      have Xs : (frag.heap_1 w.params).In s.heap := X.keeps G.st
      k_dflt (
        refine' enterPd G _ ?k1 hap ?k3 ?k4 ?k5 ?k6 ?k8 ?k7 ?_ ?c2 ?c3 ?c4 ?c5
        (case k3 => k_is)
        (case k4 => k_is)
        (case k1 => assumption)
        (case k5 => omega)
        (case k6 => exact binds_K Xs rfl (by k_is) rfl rfl rfl)
        (case k8 => (refine' zr_of ?zra ?zrb; (case zra => (dsimp only [List.map_cons, List.map_nil]; try exact rfl)); (case zrb => first | exact zr1 | exact zr2 | exact zr3 | exact zr4 | exact zr5 | exact zr6 | exact zr7 | exact zr8)))
        (case k7 => exact locs rfl)
        (case c2 => exact rfl)
        (case c3 => exact rfl)
        (case c4 => exact rfl)
        (case c5 => decide)
        k_whole
        intro g' L' h' tk' gk' F' N' B' X' T'
        (try dsimp only [mled] at N')
        (try dsimp only)
        (try k_fold)))
  k_with "k_all" =>
    first | exact List.forall_mem_nil _ | with_reducible assumption | exact allLt_ne (by with_reducible assumption) | (refine' List.forall_mem_cons.mpr ⟨?a, ?b⟩; (case a => k_ne); (case b => k_all))
  k_with "k_allIn" =>
    first | exact True.intro | exact hAN | (refine And.intro ?h ?_; (case h => k_memK); k_allIn)
  k_with "call ref" =>
    (k_dflt (
      (with_reducible show wpAny _ _ (call (Value.ref 235) _) _ _ _)
      (refine' useX (check_rule_any ?a ?b ?c ?v ?ps ?po) X T B' ?F ?N ?A ?L ?K ?d ?u ?_ ?e)
      (case a => assumption)
      (case v => assumption)
      (case F => k_asm)
      (case N => k_asm)
      (case A => exact rfl)
      (case L => exact rfl)
      (case K => intro h9; cases h9)
      (case d => ktr_room)
      (case u => ktr_units)
      (case ps => assumption)
      (case po => assumption)
      (case b => exact IsList_Fr (by k_asm) (by assumption))
      (case c => exact PartsOn_Fr (by k_asm) (by assumption))
      (case e => intro hx9 e9 h9 tk9 fl9; first | (rw [hok] at hx9; cases hx9) | (refine pass_out gk' (fun p hp => (fp p hp).1) (by k_asm) ?_ fl9 fun h2 f2 => err ?_ _ _ _ f2; boot_fact; nest_cls))
      intro h' tk' F' N' hx'
      (try k_sweep)))
  k_with "call builtin:len" =>
    ((with_reducible show wpAny _ _ (call (Value.builtin "len") [Value.ref _]) _ _ _); k_dflt (refine' len_L ?l ?z ?_; (case l => first | exact IsList_Fr (by k_asm) (by with_reducible assumption) | exact isL (by k_asm) (by with_reducible k_mem)); (case z => first | omega | (simp only [List.length_append, List.length_cons, List.length_nil]; omega)); k_whole))
  k_with "subscriptTail Name Name ref int" =>
    (k_dflt (refine' item_B ?l ?i ?z ?_; (case l => exact IsList_Fr (by k_asm) (by assumption)); (case i => assumption); (case z => omega); k_whole))
  k_with "exec For Name Call cons nil" =>
    (k_dflt (refine' For_own ?_ ?s; (case s => intro _; rfl)))
  k_with "assign Tuple" =>
    (k_here; (with_reducible show wpAny _ _ (assign (Expr.Tuple _ _ _) _ (Value.ref _)) _ _ _); k_dflt (refine' unpackN_ ?F ?N ?T ?k1 ?k2 ?k3 ?_; (case F => k_asm); (case N => k_asm); (case T => exact IsTup_Fr (by k_asm) (by with_reducible assumption)); (case k1 => exact rfl); (case k2 => exact rfl); (case k3 => exact rfl)); intro h' F' N'; (try k_sweep))
  k_with "compareOp NotIn str ref" =>
    (k_dflt (refine' sides_in ?X ?_; (case X => exact Frag.In.keeps X' (Fr.keep (by k_asm)))))
  k_with "compareOp In str ref" =>
    (k_dflt (refine' in_lv ?lvN ?lvp ?lvd ?lvk ?lvo ?_; (case lvN => k_asm); (case lvp => mem_news); (case lvd => assumption); (case lvk => assumption); (case lvo => assumption)))
  k_with "compareOp In str ref" =>
    (k_dflt (refine' in_slice ?lsN ?lsp ?lsn ?_; (case lsN => k_asm); (case lsp => mem_news); (case lsn => assumption)))
  k_with "setItem ref str" =>
    (k_dflt (refine' kda_set (knd := _root_.PySem.strKind _ _) ?ksF ?ksN ?ksU ?ksd (strKind_is _ _ _ _) ?ksz ?_; (case ksF => k_asm); (case ksN => k_asm); (case ksU => k_updF); (case ksd => k_asm); (case ksz => rw [sizeLine_eq]; omega)); intro h' o' F' N' hd'; (try dsimp only at N'))
  k_with "tlg_ne" =>
    (
      intro frs dp un gd s R hs G hap hd hu ret
      subst hs
      have X := G.X
      have T := G.T
      k_dflt (
        refine' enterT G _ ?k1 hap ?k3 ?k4 ?k5 ?k6 ?k8 ?k7 ?_ ?c2 ?c3 ?c4 ?c5
        (case k3 => k_is)
        (case k4 => k_is)
        (case k1 => assumption)
        (case k5 => omega)
        (case k6 => exact rfl)
        (case k8 => (refine' zr_of ?zra ?zrb; (case zra => (dsimp only [List.map_cons, List.map_nil]; try exact rfl)); (case zrb => first | exact zr1 | exact zr2 | exact zr3 | exact zr4 | exact zr5 | exact zr6 | exact zr7 | exact zr8)))
        (case k7 => exact locs rfl)
        (case c2 => exact rfl)
        (case c3 => exact rfl)
        (case c4 => exact rfl)
        (case c5 => decide)
        k_whole
        intro g' L' h' tk' gk' hkT hfT F' N' B' X' T'
        (try dsimp only [mled] at N')
        (try dsimp only)
        (try k_fold)))
  k_with "ite" =>
    (first | (refine ite_no (by decide) ?_) | (refine ite_yes (by decide) ?_))
  k_with "top_name" =>
    (
      intro frs dp un gd s R hs G hap hd hu ret err
      subst hs
      have X := G.X
      have T := G.T
      have Xs : (frag.heap_1 w.params).In s.heap := X.keeps G.st
      k_dflt (
        refine' enterC G _ ?k1 hap ?k3 ?k4 ?k5 ?k6 ?k7 ?k8 ?_ ?c2 ?c3 ?c4
        (case k3 => k_is)
        (case k4 => k_is)
        (case k1 => assumption)
        (case k5 => omega)
        (case k6 => exact BindsTo.of_eq rfl)
        (case k7 => exact rfl)
        (case k8 => decide +kernel)
        (case c2 => exact rfl)
        (case c3 => exact rfl)
        (case c4 => exact rfl)
        k_whole
        intro g' L' h' tk' cells' gk' F' N' Y' B' X' T' l1
        (try dsimp only [penL, booksL, List.cons_append, List.nil_append] at l1)
        (try k_lt l1)
        k_cells Y'
        (try simp only [List.cons_append, List.nil_append] at N')
        (try dsimp only)
        (try k_fold)))
  k_with "exec Raise some none" =>
    (k_dflt (refine' Raise_geX X T B' ?F X' T' ?d ?u ?a ?b ?c ?_; (case F => k_asm); (case d => ktr_room); (case u => ktr_units); (case a => exact rfl); (case b => exact rfl); (case c => exact rfl)))
  k_with "compareOp NotEq ref ref" =>
    (k_dflt (refine' ne_nil ?l ?b ?u ?_ ?_; (case l => exact isL' (by k_asm) (by k_mem)); (case b => exact isLn (by k_asm) (by k_mem)); (case u => ktr_units)) <;> (intro hnil; (try have hnl9 := List.length_pos_iff.mpr hnil)))
  k_with "subscriptTail" =>
    ((with_reducible show wpAny _ _ (subscriptTail (Expr.Tuple _ _ _) _ (Value.ref _) (Value.int _ _)) _ _ _); k_dflt (refine' item_any9 ?iN ?ip ?i0 ?i1 ?iz ?_; (case iN => k_asm); (case ip => mem_news); (case i0 => first | with_reducible assumption | omega); (case i1 => first | assumption | (simp only [List.length_cons, List.length_nil]; omega)); (case iz => first | decide | exact of_decide_eq_true rfl | (simp only [List.length_cons, List.length_nil]; omega)); intro v9 hv9))
  k_with "exec Assign cons ListComp" =>
    (k_dflt (refine LCg.Assign_ListComp_U (F₀ := by k_asm) (by rfl) (by with_unfolding_all rfl) (by with_unfolding_all rfl) (by decide) (by rfl) (by decide) (by rfl) (by rfl) (by rfl) ?_))
  k_with "eval ListComp" =>
    (k_dflt (refine LCg.ListComp_U (F₀ := by k_asm) (by with_unfolding_all rfl) (by decide) (by rfl) (by decide) (by rfl) ?_))
  k_with "call builtin:list.pop" =>
    ((try dsimp only [List.cons_append, List.nil_append]); (with_reducible show wpAny _ _ (call (Value.builtin _) [Value.ref _, Value.int 0 _]) _ _ _); k_dflt (refine' pop0_L ?xpF ?xpN ?xpU ?xpz ?_; (case xpF => k_asm); (case xpN => k_asm); (case xpU => k_upd); (case xpz => (simp only [List.length_cons, List.length_drop]; omega))); intro h' F' N')
  k_with "call builtin:list.extend" =>
    ((try dsimp only [List.cons_append, List.nil_append]); (with_reducible show wpAny _ _ (call (Value.builtin _) [Value.ref _, Value.ref _]) _ _ _); k_dflt (refine' extend_L ?xeF ?xeN ?xeb ?xeU ?xez ?xey ?_; (case xeF => k_asm); (case xeN => k_asm); (case xeb => mem_news); (case xeU => k_upd); (case xez => omega); (case xey => omega)); intro h' F' N')
  k_with "ite" =>
    (first | (refine ite_no (by decide) ?_) | (refine ite_yes (by decide) ?_) | ((with_reducible show if (decide (_ = _)) = true then _ else _); first | (refine ite_no (decide_eq_false (by omega)) ?_) | (refine ite_yes (decide_eq_true (by omega)) ?_)) | ((with_reducible show if (_ == _) = true then _ else _); first | (refine ite_no (beq_eq_false_iff_ne.mpr (by omega)) ?_) | (refine ite_yes (beq_iff_eq.mpr (by omega)) ?_)))
  k_with "call builtin:len" =>
    ((with_reducible show wpAny _ _ (call (Value.builtin "len") [Value.ref _]) _ _ _); k_dflt (refine' len_L ?ll ?lz ?_; (case ll => (refine' isL ?lN ?lm; (case lN => k_asm); (case lm => mem_news))); (case lz => omega); k_whole))
  k_with "CompSrc" =>
    refine hold_ ?_
  k_with "kat_tups" =>
    first | with_reducible_and_instances exact List.Mem.head _ | (refine List.Mem.tail _ ?_; kat_tups) | (refine List.mem_append.mpr (Or.inl ?_); kat_tups) | (refine List.mem_append.mpr (Or.inr ?_); kat_tups) | with_reducible assumption
  k_with "top_args" =>
    first | exact List.forall_mem_nil _ | (refine List.forall_mem_cons.mpr (And.intro ?_ ?_); kat_tups; top_args) | (refine List.forall_mem_append.mpr (And.intro ?_ ?_); top_args; top_args) | (intro q hq; kat_tups)
  k_with "mem_news" =>
    first | (with_reducible_and_instances (repeat (first | exact List.Mem.head _ | refine List.Mem.tail _ ?_)); done) | kat_tups | ((try dsimp only [penL, booksL, mled, List.cons_append, List.nil_append]); top_args)
  k_with "k_ne" =>
    (refine neN ?_; (try dsimp only); first | with_reducible exact Nat.ne_of_lt (by with_reducible assumption) | with_reducible exact Nat.ne_of_gt (by with_reducible assumption) | with_reducible assumption | with_reducible exact Ne.symm (by with_reducible assumption) | omega)
  k_with "k_memK" =>
    first | exact ne0 | (refine ne1 ?kmx ?_; (case kmx => k_ne); k_memK)
  k_with "ktr_room" =>
    ((try simp only [depth_under_make, depth_under_kw, depth_in1, depth_deeper]); (try dsimp only [Ar]); first | exact room1 (by with_reducible assumption) (by decide) | exact room2 (by with_reducible assumption) (by decide) | omega)
  k_with "ktr_units" =>
    ((try simp only [units_in1, units_deeper, Around.mark_units]); (try dsimp only [Ar]); first | exact units1 (by with_reducible assumption) (by decide) | exact units2 (by with_reducible assumption) (by decide) | exact units3 (by with_reducible assumption) (by decide) | omega)
  k_with "k_allIn" =>
    first | exact True.intro | exact hAt' | ((with_reducible refine AllNe.app ?_ ?_) <;> k_allIn) | (refine And.intro ?kah ?_; (case kah => k_memK); k_allIn)
  k_with "binaryOp Add ref ref" =>
    ((with_reducible show wpAny _ _ (binaryOp _ (Value.ref _) (Value.ref _)) _ _ _); k_dflt (refine' add_L ?adF ?adN ?ada ?adb ?adz ?_; (case adF => k_asm); (case adN => k_asm); (case ada => mem_news); (case adb => mem_news); (case adz => first | decide | (simp only [List.length_cons, List.length_nil, List.length_append]; omega))); intro D' h' F' N' l1; (try k_lt l1); (try k_sweep))
  k_with "subscriptTail" =>
    ((with_reducible show wpAny _ _ (subscriptTail (Expr.List _ _) _ (Value.ref _) (Value.int _ _)) _ _ _); k_dflt (refine' item_any8 ?iN ?ip ?i0 ?i1 ?iz ?_; (case iN => k_asm); (case ip => mem_news); (case i0 => first | with_reducible assumption | omega); (case i1 => first | assumption | (simp only [List.length_cons, List.length_nil]; omega)); (case iz => first | decide | exact of_decide_eq_true rfl | (simp only [List.length_cons, List.length_nil]; omega)); intro v9 hv9))
  k_with "subscriptTail" =>
    ((with_reducible show wpAny _ _ (subscriptTail _ (Expr.Constant (Const.int 0) _ _) (Value.ref _) (Value.int 0 _)) _ _ _); k_dflt (refine' item_any8 ?iN ?ip ?i0 ?i1 ?iz ?_; (case iN => k_asm); (case ip => mem_news); (case i0 => decide); (case i1 => (simp only [List.length_append, List.length_cons, List.length_nil]; omega)); (case iz => (simp only [List.length_append, List.length_cons, List.length_nil]; omega)); intro v9 hv9))
  k_with "atoms" =>
    first | exact Atoms.nil | (refine' Atoms.str ?amn; (case amn => k_extra "atoms")) | (refine' Atoms.int ?amn; (case amn => k_extra "atoms")) | (refine' Atoms.none ?amn; (case amn => k_extra "atoms")) | (refine' Atoms.name ?amv ?amx ?amd ?amn; (case amv => exact rfl); (case amx => exact rfl); (case amd => decide); (case amn => k_extra "atoms"))
  k_with "spliced" =>
    ((try dsimp only); k_dflt (refine' spliced_atoms ?saF ?sae ?saH ?_ ?sak; (case saF => k_asm); (case sae => exact rfl); (case sak => exact rfl); (case saH => k_extra "atoms"); k_whole))
  k_with "eval Tuple" =>
    ((try dsimp only); k_dflt (refine' tuple_atoms ?saF ?saN ?sae ?saH ?saz ?_ ?sak; (case saF => k_asm); (case sae => exact rfl); (case saN => k_asm); (case sak => exact rfl); (case saH => k_extra "atoms"); (case saz => kmk_size)); intro D' h' F' N' l1; (try k_lt l1); (try k_sweep))
  k_with "eval List" =>
    ((try dsimp only); k_dflt (refine' list_atoms ?saF ?saN ?sae ?saH ?saz ?_ ?sak; (case saF => k_asm); (case sae => exact rfl); (case saN => k_asm); (case sak => exact rfl); (case saH => k_extra "atoms"); (case saz => kmk_size); k_whole); intro l' h' F' N' l1; (try k_lt l1); (try k_sweep))
  k_with "eval Call" =>
    ((try dsimp only); k_dflt (refine' call_atoms ?saF ?saX ?saT ?saE ?sae ?sakp ?saH ?_ ?sax ?sad ?sas ?sap ?sak; (case saF => k_asm); (case saE => exact rfl); (case saX => k_asm); (case saT => k_asm); (case sax => exact rfl); (case sae => k_is); (case sakp => k_is); (case saH => k_extra "atoms"); (case sad => decide); (case sas => exact rfl); (case sap => exact rfl); (case sak => exact rfl); k_whole))
  k_with "eqNo" =>
    first | exact EqC.int_no (by decide) | exact EqC.str_no (by with_reducible assumption) | exact EqC.str_no (by decide +kernel) | exact EqC.int_no (by omega)
  k_with "eqYes" =>
    first | exact EqC.int_yes rfl | exact EqC.str_yes (by with_reducible assumption) | exact EqC.str_yes (by decide +kernel) | exact EqC.int_yes (by omega)
  k_with "exec If" =>
    ((with_reducible show wpAny _ _ (exec (Stmt.If (Expr.Compare (Expr.Name _ _) [CmpOp.Eq] [Expr.Constant _ _ _] _) _ _ _) _) _ _ _); k_dflt (first
      | (refine' if_no ?siF ?sie ?siv ?sin ?_ ?six ?sid ?sik; (case siF => k_asm); (case sie => exact rfl); (case siv => exact rfl); (case sin => k_extra "eqNo"); (case six => exact rfl); (case sid => decide); (case sik => exact rfl); k_whole)
      | (refine' if_yes ?siF ?sie ?siv ?sin ?_ ?six ?sid ?sik; (case siF => k_asm); (case sie => exact rfl); (case siv => exact rfl); (case sin => k_extra "eqYes"); (case six => exact rfl); (case sid => decide); (case sik => exact rfl); k_whole)))
  k_with "kat_tups" =>
    first | with_reducible_and_instances exact List.Mem.head _ | (refine List.Mem.tail _ ?_; kat_tups) | (refine List.mem_append.mpr (Or.inl ?_); kat_tups) | (refine List.mem_append.mpr (Or.inr ?_); kat_tups) | with_reducible assumption | with_reducible_and_instances exact hq | ((with_reducible show List.Mem _ _); with_reducible_and_instances assumption)
  k_with "top_args" =>
    first | exact List.forall_mem_nil _ | (refine List.forall_mem_cons.mpr (And.intro ?_ ?_); kat_tups; top_args) | (refine List.forall_mem_append.mpr (And.intro ?_ ?_); top_args; top_args) | (intro q hq; kat_tups)
  k_with "mem_news" =>
    first | ((with_reducible_and_instances (repeat (first | exact List.Mem.head _ | refine List.Mem.tail _ ?_))); done) | ((with_reducible show _ ∈ _); kat_tups) | ((try dsimp only [penL, booksL, mled, List.cons_append, List.nil_append]); top_args)
  k_with "ltD" =>
    first | with_reducible assumption | exact lt_l1 (by with_reducible assumption) (by kat_tups) | omega
  k_with "k_ne" =>
    (refine neN ?_; (try dsimp only); first | with_reducible assumption | with_reducible exact Ne.symm (by with_reducible assumption) | with_reducible exact Nat.ne_of_lt (by with_reducible assumption) | with_reducible exact Nat.ne_of_gt (by with_reducible assumption) | exact ne_l1 (by with_reducible assumption) (by kat_tups) | exact Ne.symm (ne_l1 (by with_reducible assumption) (by kat_tups)) | exact ne_l1s (by with_reducible assumption) (by kat_tups) | exact Ne.symm (ne_l1s (by with_reducible assumption) (by kat_tups)) | exact ne_lt2 (by with_reducible assumption) (by with_reducible assumption) (by kat_tups) | exact Ne.symm (ne_lt2 (by with_reducible assumption) (by with_reducible assumption) (by kat_tups)) | exact Anew.ne (by with_reducible assumption) (by kat_tups) | exact Ne.symm (Anew.ne (by with_reducible assumption) (by kat_tups)) | omega)
  k_with "k_all" =>
    first | exact List.forall_mem_nil _ | with_reducible assumption | exact tail_l1 (by with_reducible assumption) (by intro q hq; kat_tups) | (refine' List.forall_mem_cons.mpr ⟨?kaa, ?kab⟩; (case kaa => k_ne); (case kab => k_all))
  k_with "k_allIn" =>
    first | exact True.intro | with_reducible assumption | ((with_reducible refine AllNe.app ?_ ?_) <;> k_allIn) | (refine And.intro ?kah ?_; (case kah => k_memK); k_allIn)
  k_with "useC" =>
    (
      (case F => k_asm)
      (case N => k_asm)
      (case A => exact rfl)
      (case L => exact rfl)
      (case K => intro h9; cases h9)
      (case d => ktr_room)
      (case u => ktr_units)
      (case P => tb_start)
      (case ne => k_allIn))
  k_with "dipC" =>
    (
      (case ta => with_reducible assumption)
      (case tb => assumption)
      (case tc => assumption)
      k_extra "useC"
      (case tg => first | with_reducible assumption | omega)
      (case th => first | exact PB.lt6 (by with_reducible assumption) (by with_reducible assumption) (by decide) | exact PB.lt (by with_reducible assumption) (by with_reducible assumption) (by decide) | omega)
      (case ti => first | with_reducible assumption | omega))
  k_with "pbStep" =>
    (have hPB := PB.step (by with_reducible assumption) hp1)
  k_with "exec If" =>
    ((with_reducible show wpAny _ _ (exec (Stmt.If (Expr.Compare (Expr.Name _ _) [CmpOp.Eq] [Expr.Constant _ _ _] _) _ _ _) _) _ _ _); k_dflt (refine' if_two ?siF ?sie ?siv ?_ ?_ ?six ?sid ?sik; (case siF => k_asm); (case sie => exact rfl); (case siv => exact rfl); (case six => exact rfl); (case sid => decide); (case sik => exact rfl); k_whole))
  k_with "eval Tuple" =>
    ((try dsimp only); k_dflt (refine' tuple_atomsL ?saF ?saN ?sae ?saH ?saz ?_ ?sak; (case saF => k_asm); (case sae => exact rfl); (case saN => k_asm); (case sak => exact rfl); (case saH => k_extra "atoms"); (case saz => kmk_size)); intro D' h' nw' F' N' l1; (try k_lt l1); (try k_sweep))
  k_with "eval List" =>
    ((try dsimp only); k_dflt (refine' list_atomsL ?saF ?saN ?sae ?saH ?saz ?_ ?sak; (case saF => k_asm); (case sae => exact rfl); (case saN => k_asm); (case sak => exact rfl); (case saH => k_extra "atoms"); (case saz => kmk_size); k_whole); intro l' h' nw' F' N' l1; (try k_lt l1); (try k_sweep))
  k_with "newTuple" =>
    ((try dsimp only); k_dflt (refine' newTupleL ?F ?N ?_ ?z; (case F => k_asm); (case N => k_asm); (case z => kmk_size)); intro D' h' nw' F' N' l1; (try k_sweep))
  k_with "newList" =>
    ((try dsimp only); k_dflt (refine' newListL ?F ?N ?_ ?z; (case F => k_asm); (case N => k_asm); (case z => kmk_size)); intro D' h' nw' F' N' l1; (try k_sweep))
  k_with "storeName" =>
    ((try dsimp only); k_dflt (refine' storeL ?F ?N ?_ ?a ?b; (case F => k_asm); (case N => k_asm); (case a => exact rfl); (case b => exact rfl); k_whole); intro h' mm' F' N'; (try k_sweep))
  k_with "call ref" =>
    (k_dflt (
      (with_reducible show wpAny _ _ (call (Value.ref 351) _) _ _ _)
      (refine' dip_useL ?ta ?tb ?tc ?td ?tf ?tg ?th ?ti X T B' ?F ?N ?A ?L ?K ?d ?u ?P ?ne ?_)
      k_extra "dipC"
      (case td => first | decide | omega)
      (case tf => first | decide | omega)
      intro r' t' e' pos' pt' res' rt' h' tk' rs' nw' hnr' hky' hr0 hr1 hp0 hp1 hs0 F' N'
      (try k_extra "pbStep")
      (try have h5 := Has.keys (xs := [b.p, b.c, b.bk, b.fl, b.tk]) (by k_extra "hasK") hky')
      (try clear hky')
      (try k_sweep)))
  k_with "hasK" =>
    first | with_reducible assumption | exact Has.pen | (refine' Has.cons ?_; k_extra "hasK")
  k_with "k_allIn" =>
    first | exact True.intro | with_reducible assumption | (refine' Has.allNe ?hhh ?hhl ?_; (case hhl => with_reducible assumption); (case hhh => k_extra "hasK"); k_allIn) | ((with_reducible refine AllNe.app ?_ ?_) <;> k_allIn) | (refine And.intro ?kah ?_; (case kah => k_memK); k_allIn)
  k_with "call ref" =>
    (k_dflt (
      (with_reducible show wpAny _ _ (call (Value.ref 358) _) _ _ _)
      (refine' parts_useL ?ta ?tb ?tc ?td ?tf ?tg ?th ?ti X T B' ?F ?N ?A ?L ?K ?d ?u ?P ?ne ?_)
      k_extra "dipC"
      (case td => first | decide | omega)
      (case tf => first | decide | omega)
      (try (have hPs0 := hPs'; have hpl0 := hpl'; have hgp0 := hgp'; have hA50 := hA5))
      intro e' pos' pt' res' rt' a' vs' fe' nd' ps' h' tk' rs' nw' hnr' hky' hp0 hp1 hs0 hPs' hpl' hgp' hvl hAw' hAt' hNp' F' N'
      (try have hPB := PB.steps (by with_reducible assumption) hp1)
      (try have hA6 := Anew.all (xs := [b.p, b.c, b.bk, b.fl, b.tk]) hAw' (by show Has _ _; k_extra "hasK"))
      (try have hA5 := And.right hA6)
      (try have h5 := Has.keys (xs := [b.p, b.c, b.bk, b.fl, b.tk]) (by k_extra "hasK") hky')
      (try clear hky')
      (try k_sweep)))
  k_with "subscriptTail" =>
    ((with_reducible show wpAny _ _ (subscriptTail _ _ (Value.ref _) (Value.str _ _)) _ _ _); k_dflt (refine' kda_item (knd := _root_.PySem.strKind _ _) ?diN ?dip ?did (strKind_is _ _ _ _) ?div ?_; (case diN => k_asm); (case dip => mem_news); (case did => k_asm); (case div => exact rfl)))
  k_with "eval Tuple" =>
    (k_fold; walk_at "eval Tuple")
  k_with "eval List" =>
    (k_fold; walk_at "eval List")
  k_with "eval BinOp" =>
    (k_fold; walk_at "eval BinOp")
  k_with "eval Call" =>
    (k_fold; walk_at "eval Call")
  k_with "eval Subscript" =>
    (k_fold; walk_at "eval Subscript")
  k_with "hasM" =>
    first | exact Has.nil | (refine' Has.mk ?hmm ?_; (case hmm => mem_news); k_extra "hasM")
  k_with "k_ne" =>
    (refine neN ?_; (try dsimp only); first | with_reducible assumption | with_reducible exact Ne.symm (by with_reducible assumption) | with_reducible exact Nat.ne_of_lt (by with_reducible assumption) | with_reducible exact Nat.ne_of_gt (by with_reducible assumption) | exact ne_l1 (by with_reducible assumption) (by kat_tups) | exact Ne.symm (ne_l1 (by with_reducible assumption) (by kat_tups)) | exact ne_l1s (by with_reducible assumption) (by kat_tups) | exact Ne.symm (ne_l1s (by with_reducible assumption) (by kat_tups)) | exact ne_lt2 (by with_reducible assumption) (by with_reducible assumption) (by kat_tups) | exact Ne.symm (ne_lt2 (by with_reducible assumption) (by with_reducible assumption) (by kat_tups)) | exact Anew.ne (by with_reducible assumption) (by kat_tups) | exact Ne.symm (Anew.ne (by with_reducible assumption) (by kat_tups)) | exact ne_mem (by with_reducible assumption) (by kat_tups) | exact Ne.symm (ne_mem (by with_reducible assumption) (by kat_tups)) | omega)
  k_with "fiveN" =>
    first | exact True.intro | with_reducible assumption | (refine' Has.allNe ?fvh ?fvl ?_; (case fvl => with_reducible assumption); (case fvh => k_extra "hasK"); k_extra "fiveN") | (refine' Has.allNe2 ?fvh ?fvl ?_; (case fvl => with_reducible assumption); (case fvh => k_extra "hasK"); k_extra "fiveN")
  k_with "arith" =>
    first | with_reducible assumption | exact PB.le (by with_reducible assumption) (by decide) | omega
  k_with "strsC" =>
    first | exact StrsAre.nil | (apply StrsAre.cons; k_extra "strsC")
  k_with "subscriptTail" =>
    ((with_reducible show wpAny _ _ (subscriptTail (Expr.Tuple _ _ _) _ (Value.ref _) (Value.int _ _)) _ _ _); k_dflt (refine' item_strs ?iN ?ip ?iS ?i0 ?i1 ?im ?iz ?_; (case iN => k_asm); (case ip => mem_news); (case iS => k_extra "strsC"); (case i0 => with_reducible assumption); (case i1 => with_reducible assumption); (case im => exact rfl); (case iz => decide)); intro ys' ts' hys')
  k_with "subscriptTail" =>
    ((with_reducible show wpAny _ _ (subscriptTail (Expr.List _ _) _ (Value.ref _) (Value.int _ _)) _ _ _); k_dflt (refine' item_strsL ?iN ?ip ?iS ?i0 ?i1 ?iz ?_; (case iN => k_asm); (case ip => mem_news); (case iS => k_extra "strsC"); (case i0 => with_reducible assumption); (case i1 => first | assumption | (simp only [List.length_cons, List.length_nil]; omega)); (case iz => first | decide | (simp only [List.length_cons, List.length_nil]; omega))); intro ys' ts' hys')
  k_with "subscriptTail" =>
    ((with_reducible show wpAny _ _ (subscriptTail _ (Expr.Constant (Const.int 0) _ _) (Value.ref _) (Value.int 0 _)) _ _ _); k_dflt (refine' item_strsL ?iN ?ip ?iS ?i0 ?i1 ?iz ?_; (case iN => k_asm); (case ip => mem_news); (case iS => exact StrsAre.append' (by with_reducible assumption) (StrsAre.cons _ _ StrsAre.nil)); (case i0 => decide); (case i1 => (simp only [List.length_append, List.length_cons, List.length_nil]; omega)); (case iz => (simp only [List.length_append, List.length_cons, List.length_nil]; omega))); intro ys' ts' hys')
  k_with "ltSkip" => skip
  trivial
noncomputable def keptS : List Str := [Str.ofString "$a", Str.ofString "", Str.ofString "$@1", Str.ofString "$end"]
theorem keptS_all : ∀ y ∈ keptS, kept y = true ∧ y.length < 1000 := by decide +kernel
/-- a bad call -/
inductive BadStep (K : BKS) : Cal → Prop
  | part (ps : List Part) (q : Part) : q ∈ ps → partBad q = true → BadStep K (.rule (Str.ofString "u") ps none)
  | prec (ps : List Part) (y : Str) : kept y = true → BadStep K (.rule (Str.ofString "u") ps (some y))
  | left (ps : List Part) (y : Str) : kept y = true → BadStep K (.rule y ps none)
  | lev (y : Str) : (kept y = true ∨ y ∈ FREE.take K.k ∨ y ∈ [Str.ofString "p", Str.ofString "q"]) → BadStep K (.level (Str.ofString "left") [Str.ofString "p", Str.ofString "q", y])
  | side : BadStep K (.level (Str.ofString "up") [Str.ofString "p"])
  | empty : BadStep K (.level (Str.ofString "right") [])
  | token (y : Str) : kept y = true → BadStep K (.token y)
  | expect : K.x > 0 → BadStep K (.expect 9)
  | start (y : Str) : (K.s > 0 ∨ kept y = true) → BadStep K (.start y)
noncomputable def BadPost (b : BA) (bo : Obj) (fv tv : List Value) (fe te : Nat) (cs : List Value) (n : Nat) (pos : Int) (K : BKS) (v : Value) (nn : List (Addr × Obj)) : Prop :=
  ∃ e pos' pt res rt nd c, nn = penL b.p b.c e pos' pt res rt cs n ++ (booksL b.bk bo b.fl b.tk fv fe tv te ++ nd) ∧ 0 ≤ pos' ∧ pos' ≤ pos + 30 ∧ 0 ≤ res ∧ BadStep K c ∧ calFits c ∧ CallOn (inl nd) v c ∧ AllNe [b.p, b.c, b.bk, b.fl, b.tk] nd
theorem fits_parts {ps : List Part} (h : ∀ q ∈ ps, q.1.length < 1000 ∧ q.2.length < 1000) : ∀ (i : Nat) (p : Part), ps[i]? = some p → p.1.length < 1000 ∧ p.2.length < 1000 := fun _ _ e => h _ (List.mem_of_getElem? e)
theorem good_small {ps : List Part} (h : ∀ q ∈ ps, goodPart q) : ∀ q ∈ ps, q.1.length < 1000 ∧ q.2.length < 1000 := fun q hq => (h q hq).2
section
variable {w : World} {b : BA} {cs : List Value} {n : Nat} {pos pos' res : Int} {pt rt st xt t1 t2 t3 t4 t5 t6 t7 t8 : Tok} {K : BKS} {bo : Obj} {fv tv : List Value} {fe te e fe3 j : Nat} {y : Str} {D1 D2 D3 Da Ds Dz : Addr}
theorem bad_rule {vs : List Value} {ps : List Part} {pv : Value} {po : Option Str} {nd : List (Addr × Obj)} (hs : BadStep K (.rule y ps po)) (hp0 : 0 ≤ pos') (hp1 : pos' ≤ pos + 30) (hr : 0 ≤ res)
    (hPs : PartsOn (inl nd) vs ps) (hy : y.length < 1000) (hg : ∀ q ∈ ps, q.1.length < 1000 ∧ q.2.length < 1000) (hpo : ∀ y, po = some y → y.length < 1000) (hl : ps.length < 100) (hpv : OptS pv po)
    (hne : AllNe [b.p, b.c, b.bk, b.fl, b.tk] ((D1, tupO [.str "rule" t1, .ref D2]) :: (D2, tupO [.str y t2, .ref D3, pv]) :: (D3, listOf vs.toArray fe3) :: nd)) :
    BadPost b bo fv tv fe te cs n pos K (.ref D1) (penL b.p b.c e pos' pt res rt cs n ++ (booksL b.bk bo b.fl b.tk fv fe tv te ++ (D1, tupO [.str "rule" t1, .ref D2]) :: (D2, tupO [.str y t2, .ref D3, pv]) :: (D3, listOf vs.toArray fe3) :: nd)) :=
  ⟨e, pos', pt, res, rt, _, _, rfl, hp0, hp1, hr, hs, ⟨hy, fits_parts hg, hpo, hl⟩, ⟨D1, D2, D3, t1, t2, _, fe3, pv, rfl, .head _, .tail _ (.head _), .tail _ (.tail _ (.head _)), hPs.mono fun _ _ h => .tail _ (.tail _ (.tail _ h)), hpv⟩, hne⟩
theorem bad_w0 {vs1 vs2 : List Value} {ps1 ps2 : List Part} {nd1 nd2 : List (Addr × Obj)} (h1 : PartsOn (inl nd1) vs1 ps1) (h2 : PartsOn (inl nd2) vs2 ps2) (l1 : ps1.length < 10) (l2 : ps2.length < 10) (g1 : ∀ q ∈ ps1, goodPart q) (g2 : ∀ q ∈ ps2, goodPart q) (hy : kept y = true ∧ y.length < 1000) (hp0 : 0 ≤ pos') (hp1 : pos' ≤ pos + 30) (hr : 0 ≤ res)
    (hne : AllNe [b.p, b.c, b.bk, b.fl, b.tk] ((D1, tupO [.str "rule" t1, .ref D2]) :: (D2, tupO [.str "u" t2, .ref D3, .none]) :: (D3, listOf (vs1 ++ [Value.ref Da, Value.ref Ds] ++ vs2).toArray fe3) :: (Da, tupO [.str "act" t3, .str "z" t4]) :: (Ds, tupO [.str "sym" t5, .str y t6]) :: (nd1 ++ nd2))) :
    BadPost b bo fv tv fe te cs n pos K (.ref D1) (penL b.p b.c e pos' pt res rt cs n ++ (booksL b.bk bo b.fl b.tk fv fe tv te ++ (D1, tupO [.str "rule" t1, .ref D2]) :: (D2, tupO [.str "u" t2, .ref D3, .none]) :: (D3, listOf (vs1 ++ [Value.ref Da, Value.ref Ds] ++ vs2).toArray fe3) :: (Da, tupO [.str "act" t3, .str "z" t4]) :: (Ds, tupO [.str "sym" t5, .str y t6]) :: (nd1 ++ nd2))) := by
  refine bad_rule (ps := ps1 ++ [(Str.ofString "act", Str.ofString "z"), (Str.ofString "sym", y)] ++ ps2) (.part _ (Str.ofString "sym", y) (by simp) (by simp [partBad, hy.1])) hp0 hp1 hr ?_ (by decide +kernel) ?_ (fun _ h => nomatch h) (by simp only [List.length_append, List.length_cons, List.length_nil]; omega) .none hne
  · exact ((h1.mono fun _ _ h => .tail _ (.tail _ (List.mem_append.mpr (.inl h)))).append (.cons ⟨Da, t3, t4, rfl, .head _⟩ (.cons ⟨Ds, t5, t6, rfl, .tail _ (.head _)⟩ .nil))).append (h2.mono fun _ _ h => .tail _ (.tail _ (List.mem_append.mpr (.inr h))))
  · intro q hq
    simp only [List.mem_append, List.mem_cons, List.not_mem_nil, or_false] at hq
    rcases hq with (hq | rfl | rfl) | hq
    · exact (g1 q hq).2
    · decide +kernel
    · exact ⟨(by decide +kernel : (Str.ofString "sym").length < 1000), hy.2⟩
    · exact (g2 q hq).2
theorem bad_w1 {vs1 : List Value} {ps1 : List Part} {nd1 : List (Addr × Obj)} (h1 : PartsOn (inl nd1) vs1 ps1) (l1 : ps1.length < 10) (g1 : ∀ q ∈ ps1, goodPart q) (hp0 : 0 ≤ pos') (hp1 : pos' ≤ pos + 30) (hr : 0 ≤ res)
    (hne : AllNe [b.p, b.c, b.bk, b.fl, b.tk] ((D1, tupO [.str "rule" t1, .ref D2]) :: (D2, tupO [.str "u" t2, .ref D3, .none]) :: (D3, listOf (vs1 ++ [Value.ref Da, Value.ref Ds, Value.ref Dz]).toArray fe3) :: (Da, tupO [.str "sym" t3, .str "'%'" t4]) :: (Ds, tupO [.str "odd" t5, .str "A" t6]) :: (Dz, tupO [.str "act" t7, .str "z" t8]) :: nd1)) :
    BadPost b bo fv tv fe te cs n pos K (.ref D1) (penL b.p b.c e pos' pt res rt cs n ++ (booksL b.bk bo b.fl b.tk fv fe tv te ++ (D1, tupO [.str "rule" t1, .ref D2]) :: (D2, tupO [.str "u" t2, .ref D3, .none]) :: (D3, listOf (vs1 ++ [Value.ref Da, Value.ref Ds, Value.ref Dz]).toArray fe3) :: (Da, tupO [.str "sym" t3, .str "'%'" t4]) :: (Ds, tupO [.str "odd" t5, .str "A" t6]) :: (Dz, tupO [.str "act" t7, .str "z" t8]) :: nd1)) := by
  refine bad_rule (ps := ps1 ++ [(Str.ofString "sym", Str.ofString "'%'"), (Str.ofString "odd", Str.ofString "A"), (Str.ofString "act", Str.ofString "z")]) (.part _ (Str.ofString "odd", Str.ofString "A") (by simp) (by decide +kernel)) hp0 hp1 hr ?_ (by decide +kernel) ?_ (fun _ h => nomatch h) (by simp only [List.length_append, List.length_cons, List.length_nil]; omega) .none hne
  · exact (h1.mono fun _ _ h => .tail _ (.tail _ (.tail _ h))).append (.cons ⟨Da, t3, t4, rfl, .head _⟩ (.cons ⟨Ds, t5, t6, rfl, .tail _ (.head _)⟩ (.cons ⟨Dz, t7, t8, rfl, .tail _ (.tail _ (.head _))⟩ .nil)))
  · intro q hq
    simp only [List.mem_append, List.mem_cons, List.not_mem_nil, or_false] at hq
    rcases hq with hq | rfl | rfl | rfl
    · exact (g1 q hq).2
    · decide +kernel
    · decide +kernel
    · decide +kernel
theorem bad_w2 {vs1 : List Value} {ps1 : List Part} {nd1 : List (Addr × Obj)} (h1 : PartsOn (inl nd1) vs1 ps1) (l1 : ps1.length < 10) (g1 : ∀ q ∈ ps1, goodPart q) (hy : kept y = true ∧ y.length < 1000) (hp0 : 0 ≤ pos') (hp1 : pos' ≤ pos + 30) (hr : 0 ≤ res)
    (hne : AllNe [b.p, b.c, b.bk, b.fl, b.tk] ((D1, tupO [.str "rule" t1, .ref D2]) :: (D2, tupO [.str "u" t2, .ref D3, .str y t7]) :: (D3, listOf ([Value.ref Da, Value.ref Ds] ++ vs1).toArray fe3) :: (Da, tupO [.str "act" t3, .str "z" t4]) :: (Ds, tupO [.str "sym" t5, .str "'%'" t6]) :: nd1)) :
    BadPost b bo fv tv fe te cs n pos K (.ref D1) (penL b.p b.c e pos' pt res rt cs n ++ (booksL b.bk bo b.fl b.tk fv fe tv te ++ (D1, tupO [.str "rule" t1, .ref D2]) :: (D2, tupO [.str "u" t2, .ref D3, .str y t7]) :: (D3, listOf ([Value.ref Da, Value.ref Ds] ++ vs1).toArray fe3) :: (Da, tupO [.str "act" t3, .str "z" t4]) :: (Ds, tupO [.str "sym" t5, .str "'%'" t6]) :: nd1)) := by
  refine bad_rule (ps := [(Str.ofString "act", Str.ofString "z"), (Str.ofString "sym", Str.ofString "'%'")] ++ ps1) (.prec _ y hy.1) hp0 hp1 hr ?_ (by decide +kernel) ?_ (fun _ h => by cases h; exact hy.2) (by simp only [List.length_append, List.length_cons, List.length_nil]; omega) (.some _ _) hne
  · exact All2.append (.cons ⟨Da, t3, t4, rfl, .head _⟩ (.cons ⟨Ds, t5, t6, rfl, .tail _ (.head _)⟩ .nil)) (h1.mono fun _ _ h => .tail _ (.tail _ h))
  · intro q hq
    simp only [List.mem_append, List.mem_cons, List.not_mem_nil, or_false] at hq
    rcases hq with (rfl | rfl) | hq
    · decide +kernel
    · decide +kernel
    · exact (g1 q hq).2
theorem bad_w3 (hy : kept y = true ∧ y.length < 1000) (hp0 : 0 ≤ pos') (hp1 : pos' ≤ pos + 30) (hr : 0 ≤ res)
    (hne : AllNe [b.p, b.c, b.bk, b.fl, b.tk] [(D1, tupO [.str "rule" t1, .ref D2]), (D2, tupO [.str y t2, .ref D3, .none]), (D3, listOf ([Value.ref Da, Value.ref Ds, Value.ref Dz] : List Value).toArray fe3), (Da, tupO [.str "sym" t3, .str "'%'" t4]), (Ds, tupO [.str "act" t5, .str "z" t6]), (Dz, tupO [.str "sym" t7, .str "A" t8])]) :
    BadPost b bo fv tv fe te cs n pos K (.ref D1) (penL b.p b.c e pos' pt res rt cs n ++ (booksL b.bk bo b.fl b.tk fv fe tv te ++ [(D1, tupO [.str "rule" t1, .ref D2]), (D2, tupO [.str y t2, .ref D3, .none]), (D3, listOf ([Value.ref Da, Value.ref Ds, Value.ref Dz] : List Value).toArray fe3), (Da, tupO [.str "sym" t3, .str "'%'" t4]), (Ds, tupO [.str "act" t5, .str "z" t6]), (Dz, tupO [.str "sym" t7, .str "A" t8])])) := by
  refine bad_rule (ps := [(Str.ofString "sym", Str.ofString "'%'"), (Str.ofString "act", Str.ofString "z"), (Str.ofString "sym", Str.ofString "A")]) (.left _ y hy.1) hp0 hp1 hr ?_ hy.2 ?_ (fun _ h => nomatch h) (by decide) .none hne
  · exact .cons ⟨Da, t3, t4, rfl, .head _⟩ (.cons ⟨Ds, t5, t6, rfl, .tail _ (.head _)⟩ (.cons ⟨Dz, t7, t8, rfl, .tail _ (.tail _ (.head _))⟩ .nil))
  · decide +kernel
theorem bad_level {side : Str} {vs : List Value} {ns : List Str} (hs : BadStep K (.level side ns)) (hn : StrsAre vs ns) (hf : calFits (.level side ns)) (hp0 : 0 ≤ pos') (hp1 : pos' ≤ pos + 30) (hr : 0 ≤ res)
    (hne : AllNe [b.p, b.c, b.bk, b.fl, b.tk] [(D1, tupO [.str "level" t1, .ref D2]), (D2, tupO [.str side t2, .ref D3]), (D3, listOf vs.toArray fe3)]) :
    BadPost b bo fv tv fe te cs n pos K (.ref D1) (penL b.p b.c e pos' pt res rt cs n ++ (booksL b.bk bo b.fl b.tk fv fe tv te ++ [(D1, tupO [.str "level" t1, .ref D2]), (D2, tupO [.str side t2, .ref D3]), (D3, listOf vs.toArray fe3)])) :=
  ⟨e, pos', pt, res, rt, _, _, rfl, hp0, hp1, hr, hs, hf, ⟨D1, D2, D3, t1, t2, _, fe3, rfl, .head _, .tail _ (.head _), .tail _ (.tail _ (.head _)), hn⟩, hne⟩
theorem bad_w4 {vs : List Value} (hy : kept y = true ∨ y ∈ FREE.take K.k ∨ y ∈ [Str.ofString "p", Str.ofString "q"]) (hyl : y.length < 1000) (hp0 : 0 ≤ pos') (hp1 : pos' ≤ pos + 30) (hr : 0 ≤ res)
    (hne : AllNe [b.p, b.c, b.bk, b.fl, b.tk] [(D1, tupO [.str "level" t1, .ref D2]), (D2, tupO [.str "left" t2, .ref D3]), (D3, listOf ([Value.str "p" t3, Value.str "q" t4] ++ [Value.str y t5]).toArray fe3)]) :
    BadPost b bo fv tv fe te cs n pos K (.ref D1) (penL b.p b.c e pos' pt res rt cs n ++ (booksL b.bk bo b.fl b.tk fv fe tv te ++ [(D1, tupO [.str "level" t1, .ref D2]), (D2, tupO [.str "left" t2, .ref D3]), (D3, listOf ([Value.str "p" t3, Value.str "q" t4] ++ [Value.str y t5]).toArray fe3)])) :=
  bad_level (.lev y hy) (.cons _ _ (.cons _ _ (.cons _ _ .nil))) ⟨by decide +kernel, by
    intro x hx
    simp only [List.mem_cons, List.not_mem_nil, or_false] at hx
    rcases hx with rfl | rfl | rfl
    · decide +kernel
    · decide +kernel
    · exact hyl, by simp⟩ hp0 hp1 hr hne
theorem bad_side (hp0 : 0 ≤ pos') (hp1 : pos' ≤ pos + 30) (hr : 0 ≤ res)
    (hne : AllNe [b.p, b.c, b.bk, b.fl, b.tk] [(D1, tupO [.str "level" t1, .ref D2]), (D2, tupO [.str "up" t2, .ref D3]), (D3, listOf ([.str "p" t3] : List Value).toArray fe3)]) :
    BadPost b bo fv tv fe te cs n pos K (.ref D1) (penL b.p b.c e pos' pt res rt cs n ++ (booksL b.bk bo b.fl b.tk fv fe tv te ++ [(D1, tupO [.str "level" t1, .ref D2]), (D2, tupO [.str "up" t2, .ref D3]), (D3, listOf ([.str "p" t3] : List Value).toArray fe3)])) :=
  bad_level .side (.cons _ _ .nil) (by refine ⟨?_, ?_, ?_⟩ <;> decide +kernel) hp0 hp1 hr hne
theorem bad_empty (hp0 : 0 ≤ pos') (hp1 : pos' ≤ pos + 30) (hr : 0 ≤ res)
    (hne : AllNe [b.p, b.c, b.bk, b.fl, b.tk] [(D1, tupO [.str "level" t1, .ref D2]), (D2, tupO [.str "right" t2, .ref D3]), (D3, listOf ([] : List Value).toArray fe3)]) :
    BadPost b bo fv tv fe te cs n pos K (.ref D1) (penL b.p b.c e pos' pt res rt cs n ++ (booksL b.bk bo b.fl b.tk fv fe tv te ++ [(D1, tupO [.str "level" t1, .ref D2]), (D2, tupO [.str "right" t2, .ref D3]), (D3, listOf ([] : List Value).toArray fe3)])) :=
  bad_level .empty .nil (by refine ⟨?_, ?_, ?_⟩ <;> decide +kernel) hp0 hp1 hr hne
theorem bad_token (hy : kept y = true ∧ y.length < 1000) (hp0 : 0 ≤ pos') (hp1 : pos' ≤ pos + 30) (hr : 0 ≤ res)
    (hne : AllNe [b.p, b.c, b.bk, b.fl, b.tk] [(D1, tupO [.str "token" t1, .str y t2])]) :
    BadPost b bo fv tv fe te cs n pos K (.ref D1) (penL b.p b.c e pos' pt res rt cs n ++ (booksL b.bk bo b.fl b.tk fv fe tv te ++ [(D1, tupO [.str "token" t1, .str y t2])])) :=
  ⟨e, pos', pt, res, rt, _, _, rfl, hp0, hp1, hr, .token y hy.1, hy.2, ⟨D1, t1, t2, rfl, .head _⟩, hne⟩
theorem bad_expect (hx : K.x > 0) (hp0 : 0 ≤ pos') (hp1 : pos' ≤ pos + 30) (hr : 0 ≤ res)
    (hne : AllNe [b.p, b.c, b.bk, b.fl, b.tk] [(D1, tupO [.str "expect" t1, .int 9 t2])]) :
    BadPost b bo fv tv fe te cs n pos K (.ref D1) (penL b.p b.c e pos' pt res rt cs n ++ (booksL b.bk bo b.fl b.tk fv fe tv te ++ [(D1, tupO [.str "expect" t1, .int 9 t2])])) :=
  ⟨e, pos', pt, res, rt, _, _, rfl, hp0, hp1, hr, .expect hx, True.intro, ⟨D1, t1, t2, rfl, .head _⟩, hne⟩
theorem bad_start (hx : K.s > 0 ∨ kept y = true) (hyl : y.length < 1000) (hp0 : 0 ≤ pos') (hp1 : pos' ≤ pos + 30) (hr : 0 ≤ res)
    (hne : AllNe [b.p, b.c, b.bk, b.fl, b.tk] [(D1, tupO [.str "start" t1, .str y t2])]) :
    BadPost b bo fv tv fe te cs n pos K (.ref D1) (penL b.p b.c e pos' pt res rt cs n ++ (booksL b.bk bo b.fl b.tk fv fe tv te ++ [(D1, tupO [.str "start" t1, .str y t2])])) :=
  ⟨e, pos', pt, res, rt, _, _, rfl, hp0, hp1, hr, .start y hx, hyl, ⟨D1, t1, t2, rfl, .head _⟩, hne⟩
theorem FREE_small : ∀ y ∈ FREE, y.length < 1000 := by decide +kernel
theorem kept_mem {y : Str} (h : y ∈ [Str.ofString "$a", Str.ofString "", Str.ofString "$@1", Str.ofString "$end"]) : kept y = true ∧ y.length < 1000 := keptS_all y h
theorem last_mem {y1 y2 y : Str} {k : Nat} (h1 : y1 ∈ [Str.ofString "$a", Str.ofString "", Str.ofString "$@1", Str.ofString "$end"]) (h2 : y2 ∈ FREE.take k ++ [Str.ofString "p"]) (h : y ∈ [y1, y2, Str.ofString "q"]) :
    (kept y = true ∨ y ∈ FREE.take k ∨ y ∈ [Str.ofString "p", Str.ofString "q"]) ∧ y.length < 1000 := by
  simp only [List.mem_cons, List.not_mem_nil, or_false] at h
  rcases h with rfl | rfl | rfl
  · exact ⟨.inl (kept_mem h1).1, (kept_mem h1).2⟩
  · rcases List.mem_append.mp h2 with q | q
    · exact ⟨.inr (.inl q), FREE_small _ (List.mem_of_mem_take q)⟩
    · rw [List.mem_singleton.mp q]; exact ⟨.inr (.inr (.head _)), by decide +kernel⟩
  · exact ⟨.inr (.inr (.tail _ (.head _))), by decide +kernel⟩
theorem three_of {α : Type} {a c d x : α} {i : Nat} (h : [a, c, d][i]? = some x) : x = a ∨ x = c ∨ x = d := by
  match i, h with
  | 0, h => simp at h; exact .inl h.symm
  | 1, h => simp at h; exact .inr (.inl h.symm)
  | 2, h => simp at h; exact .inr (.inr h.symm)
  | n + 3, h => simp at h
end
theorem words_B24b : True := by
  k_with "fiveN" =>
    first | exact True.intro | exact AllNe.app hA50 hA5 | exact hA5 | (refine' Has.allNe ?fvh ?fvl ?_; (case fvl => with_reducible assumption); (case fvh => k_extra "hasK"); k_extra "fiveN")
  trivial
section
variable {w : World} {loose : List Str} {mean : ExcName → Option Value} {mg mb : Str → Option Value} {base : Heap}
theorem add_L {A : Around} {E : Value → Shared → Prop} {s : Shared} {g : Heap} {L a b : Addr} {m : Str → Option Value} {news : List (Addr × Obj)} {n n2 : Nat} {us vs : List Value} {Q : Value → Shared → Prop} (F : Fr g L s.heap m) (N : News g L s.heap news) (ha : (a, listOf us.toArray n) ∈ news) (hb : (b, listOf vs.toArray n2) ∈ news) (hz : us.length + vs.length < 100000)
    (h : ∀ D h', Fr g L h' m → News g L h' ((D, listOf (us ++ vs).toArray 0) :: news) → (∀ p ∈ news, p.1 < D) → Q (.ref D) { s with heap := h' }) : wpAny (model prg w) A (binaryOp .Add (.ref a) (.ref b)) Q E s :=
  kmk_add_lit F N (isL N ha) (isL N hb) rfl h (by rw [sizeLine_eq]; show us.length + vs.length ≤ _; omega)
theorem law_bad {h : Heap} {b : BA} {bo : Obj} {fv tv : List Value} {fe te : Nat} {e : Nat} {pos : Int} {pt : Tok} {res : Int} {rt : Tok} {cs : List Value} {xs : List Int} {n : Nat} {K : BKS} (o : b.Ok) (hB : BooksOn w b bo fv tv K) (hbs : (b.bk == sysModules) = false) (hi : IntsAre cs xs) (hn : cs.length < 100) (hp0 : 0 ≤ pos) (hp1 : pos < 800000) (hr : 0 ≤ res) :
    FP base h (penL b.p b.c e pos pt res rt cs n ++ booksL b.bk bo b.fl b.tk fv fe tv te) → Spec w loose mean mg mb base 370 [.ref b.p, .ref b.bk] 8 h (penL b.p b.c e pos pt res rt cs n ++ booksL b.bk bo b.fl b.tk fv fe tv te)
      (BadPost b bo fv tv fe te cs n pos K) False := by
  refine o.cps ?_
  intro a1 a2 a3 a4 b1 b2 b3 b4 b5 b6
  refine hB.cps ?_
  intro st xt hbo hfs hts hk4
  have htv : tv.length < 10 := taken_len hts
  intro fp
  have hPB : PB 0 pos pos := PB.start
  ktr_enter
  dsimp only [penL, booksL, List.cons_append, List.nil_append] at N'
  refine foldN N' ?_
  clear N'
  intro nw' N'
  have h5 : Has [b.p, b.c, b.bk, b.fl, b.tk] nw' := by k_extra "hasM"
  k_steps
  all_goals refine leaveC (by k_asm) (by k_asm) ?_
  all_goals intro kp nw
  · have hy9 := kept_mem (by with_reducible assumption)
    refine' ret _ _ _ _ kp (nw.sub ?sub) (bad_w0 hPs0 hPs' hpl0 hpl' hgp0 hgp' hy9 ?_ ?_ ?_ ?_)
    case sub => (dsimp only [penL, booksL]; top_args)
    all_goals first | k_extra "arith" | k_extra "fiveN"
  · refine' ret _ _ _ _ kp (nw.sub ?sub) (bad_w1 hPs' hpl' hgp' ?_ ?_ ?_ ?_)
    case sub => (dsimp only [penL, booksL]; top_args)
    all_goals first | k_extra "arith" | k_extra "fiveN"
  · have hy9 := kept_mem (by with_reducible assumption)
    refine' ret _ _ _ _ kp (nw.sub ?sub) (bad_w2 hPs' hpl' hgp' hy9 ?_ ?_ ?_ ?_)
    case sub => (dsimp only [penL, booksL]; top_args)
    all_goals first | k_extra "arith" | k_extra "fiveN"
  · have hy9 := kept_mem (by with_reducible assumption)
    refine' ret _ _ _ _ kp (nw.sub ?sub) (bad_w3 hy9 ?_ ?_ ?_ ?_)
    case sub => (dsimp only [penL, booksL]; top_args)
    all_goals first | k_extra "arith" | k_extra "fiveN"
  · have hy9 := last_mem (k := K.k) (by with_reducible assumption) (by with_reducible assumption) (by with_reducible assumption)
    refine' ret _ _ _ _ kp (nw.sub ?sub) (bad_w4 hy9.1 hy9.2 ?_ ?_ ?_ ?_)
    case sub => (dsimp only [penL, booksL]; top_args)
    all_goals first | k_extra "arith" | k_extra "fiveN"
  · rcases three_of hv9 with rfl | rfl | rfl
    · refine' ret _ _ _ _ kp (nw.sub ?sub) (bad_side ?_ ?_ ?_ ?_)
      case sub => (dsimp only [penL, booksL]; top_args)
      all_goals first | k_extra "arith" | k_extra "fiveN"
    · refine' ret _ _ _ _ kp (nw.sub ?sub) (bad_empty ?_ ?_ ?_ ?_)
      case sub => (dsimp only [penL, booksL]; top_args)
      all_goals first | k_extra "arith" | k_extra "fiveN"
    · have hy9 := kept_mem (by with_reducible assumption)
      refine' ret _ _ _ _ kp (nw.sub ?sub) (bad_token hy9 ?_ ?_ ?_ ?_)
      case sub => (dsimp only [penL, booksL]; top_args)
      all_goals first | k_extra "arith" | k_extra "fiveN"
  · refine' ret _ _ _ _ kp (nw.sub ?sub) (bad_expect ?_ ?_ ?_ ?_ ?_)
    case sub => (dsimp only [penL, booksL]; top_args)
    all_goals first | k_extra "arith" | k_extra "fiveN"
  · refine' ret _ _ _ _ kp (nw.sub ?sub) (bad_start (.inl ?_) ?_ ?_ ?_ ?_ ?_)
    case sub => (dsimp only [penL, booksL]; top_args)
    all_goals first | k_extra "arith" | k_extra "fiveN" | decide +kernel
  · have hy9 := kept_mem (by with_reducible assumption)
    refine' ret _ _ _ _ kp (nw.sub ?sub) (bad_start (.inr hy9.1) hy9.2 ?_ ?_ ?_ ?_)
    case sub => (dsimp only [penL, booksL]; top_args)
    all_goals first | k_extra "arith" | k_extra "fiveN"
end
noncomputable def six (m : MA) : List Addr := [m.x, m.d, m.t, m.lv, m.dr, m.lf]
noncomputable def five (b : BA) : List Addr := [b.p, b.c, b.bk, b.fl, b.tk]
/-- the addresses of the law's own objects -/
noncomputable def allA (m1 m2 : MA) (b : BA) (sp : Addr) : List Addr := six m1 ++ (six m2 ++ (five b ++ [sp]))
/-- what stands on the ledger behind them -/
noncomputable def Tl (fp : List Addr) (nx : List (Addr × Obj)) : Mp := fun a o => (a, o) ∈ nx ∧ a ∉ fp
inductive LawL (w : World) (m1 m2 : MA) (b : BA) (sp : Addr) (spo : Obj) (cs : List Value) (n : Nat) (S1 S2 : MS) (K : BKS) (P : Int) (nx : List (Addr × Obj)) : Prop
  | mk (led1 led2 bo fv fe tv te e pos pt res rt nd) : (nx = led1 ++ (led2 ++ (penL b.p b.c e pos pt res rt cs n ++ (booksL b.bk bo b.fl b.tk fv fe tv te ++ ((sp, spo) :: nd))))) → (MkL w m1 S1 (Tl (allA m1 m2 b sp) nx) led1) → (MkL w m2 S2 (Tl (allA m1 m2 b sp) nx) led2) → (0 ≤ pos) → (pos ≤ P) → (0 ≤ res) → (BooksOn w b bo fv tv K) → (∀ p ∈ nd, p.1 ∉ allA m1 m2 b sp) → LawL w m1 m2 b sp spo cs n S1 S2 K P nx
theorem adr_mk {w : World} {m : MA} {S : MS} {P : Mp} {led : List (Addr × Obj)} (h : MkL w m S P led) : ∀ p ∈ led, p.1 ∈ six m := by
  obtain ⟨lct, mct, st, ex, ts, te, lo, ds, de, ls, le, kvs, rfl, -⟩ := h
  intro p hp
  simp only [mled, List.mem_cons, List.not_mem_nil, or_false] at hp
  simp only [six, List.mem_cons, List.not_mem_nil, or_false]
  rcases hp with rfl | rfl | rfl | rfl | rfl | rfl <;> simp
theorem mk_adr {w : World} {m : MA} {S : MS} {P : Mp} {led : List (Addr × Obj)} (h : MkL w m S P led) : adr led = six m := by
  obtain ⟨lct, mct, st, ex, ts, te, lo, ds, de, ls, le, kvs, rfl, -⟩ := h
  rfl
theorem CallOn.mono {P P' : Mp} {v : Value} {c : Cal} (k : ∀ a o, P a o → P' a o) (h : CallOn P v c) : CallOn P' v c := by
  cases c with
  | level side ns => obtain ⟨a, b, l, t1, t2, vs, e, rfl, h1, h2, h3, r⟩ := h; exact ⟨a, b, l, t1, t2, vs, e, rfl, k _ _ h1, k _ _ h2, k _ _ h3, r⟩
  | token x => obtain ⟨a, t1, t2, rfl, h1⟩ := h; exact ⟨a, t1, t2, rfl, k _ _ h1⟩
  | start x => obtain ⟨a, t1, t2, rfl, h1⟩ := h; exact ⟨a, t1, t2, rfl, k _ _ h1⟩
  | expect x => obtain ⟨a, t1, t2, rfl, h1⟩ := h; exact ⟨a, t1, t2, rfl, k _ _ h1⟩
  | rule x ps po => obtain ⟨a, b, l, t1, t2, vs, e, pv, rfl, h1, h2, h3, h4, r⟩ := h; exact ⟨a, b, l, t1, t2, vs, e, pv, rfl, k _ _ h1, k _ _ h2, k _ _ h3, h4.mono k, r⟩
theorem Pick.front : ∀ (a b : List (Addr × Obj)), Pick a (a ++ b) b
  | [], _ => .nil
  | _ :: a, b => .cons .head (Pick.front a b)
theorem ne_of_off {fp : List Addr} {nd : List (Addr × Obj)} (h : ∀ p ∈ nd, p.1 ∉ fp) : AllNe fp nd := by
  induction nd with
  | nil => exact True.intro
  | cons q r ih => exact ⟨fun a ha e => h q (.head _) (e ▸ ha), ih fun p hp => h p (.tail _ hp)⟩
theorem adr_old {pb : List (Addr × Obj)} {l : List Addr} (e : adr pb = l) {x : Addr} (h : ∀ q ∈ pb, q.1 ≠ x) : ∀ a ∈ l, a ≠ x := fun a ha z => by
  have ha' : a ∈ adr pb := e.symm ▸ ha
  obtain ⟨q, hq, e2⟩ := List.mem_map.mp ha'
  exact h q hq (e2.trans z)
theorem mv1 {α : Type} {pre l1 l2 p b s : List α} : ∀ q ∈ (p ++ b) ++ (pre ++ (l1 ++ (l2 ++ s))), q ∈ pre ++ (l1 ++ (l2 ++ (p ++ (b ++ s)))) := by
  intro q h
  simp only [List.mem_append] at h ⊢
  rcases h with (h | h) | h | h | h | h <;> simp [h]
theorem mv2 {α : Type} {pre l1 l2 p b n nd : List α} {s : α} : ∀ q ∈ pre ++ (l1 ++ (l2 ++ (p ++ (b ++ (s :: (n ++ nd)))))), q ∈ (p ++ (b ++ n)) ++ (pre ++ (l1 ++ (l2 ++ (s :: nd)))) := by
  intro q h
  simp only [List.mem_append, List.mem_cons] at h ⊢
  rcases h with h | h | h | h | h | h | h | h <;> simp [h]
theorem mv3 {α : Type} {pre l1 l2 p b nd : List α} {s : α} : ∀ q ∈ pre ++ (l1 ++ (l2 ++ ((p ++ b) ++ (s :: nd)))), q ∈ (p ++ b) ++ (pre ++ (l1 ++ (l2 ++ (s :: nd)))) := by
  intro q h
  simp only [List.mem_append, List.mem_cons] at h ⊢
  rcases h with h | h | h | (h | h) | h | h <;> simp [h]
theorem mv4 {α : Type} {l1 l2 p b n nd : List α} {s q : α} (h : q ∈ l1 ++ (l2 ++ (p ++ (b ++ (s :: (n ++ nd)))))) : q ∈ l1 ∨ q ∈ l2 ∨ q ∈ p ∨ q ∈ b ∨ q = s ∨ q ∈ n ∨ q ∈ nd := by
  simpa only [List.mem_append, List.mem_cons] using h
theorem pen_adr {p c : Addr} {e : Nat} {pos : Int} {pt : Tok} {res : Int} {rt : Tok} {cs : List Value} {n : Nat} {bk : Addr} {bo : Obj} {fl tk : Addr} {fv : List Value} {fe : Nat} {tv : List Value} {te : Nat} :
    adr (penL p c e pos pt res rt cs n ++ booksL bk bo fl tk fv fe tv te) = [p, c, bk, fl, tk] := rfl
section
variable {m1 m2 : MA} {b : BA} {sp : Addr}
theorem nodup_sep (h : (allA m1 m2 b sp).Nodup) : (∀ a ∈ six m1, a ∉ six m2 ++ (five b ++ [sp])) ∧ (∀ a ∈ six m2, a ∉ five b ++ [sp]) ∧ sp ∉ five b := by
  obtain ⟨_, h2, h3⟩ := List.nodup_append.mp h
  obtain ⟨_, h5, h6⟩ := List.nodup_append.mp h2
  obtain ⟨_, _, h9⟩ := List.nodup_append.mp h5
  exact ⟨fun a ha hb => h3 a ha a hb rfl, fun a ha hb => h6 a ha a hb rfl, fun hb => h9 sp hb sp (.head _) rfl⟩
theorem in_all1 {a : Addr} (h : a ∈ six m1) : a ∈ allA m1 m2 b sp := List.mem_append.mpr (.inl h)
theorem in_all2 {a : Addr} (h : a ∈ six m2) : a ∈ allA m1 m2 b sp := List.mem_append.mpr (.inr (List.mem_append.mpr (.inl h)))
theorem in_all3 {a : Addr} (h : a ∈ five b) : a ∈ allA m1 m2 b sp := List.mem_append.mpr (.inr (List.mem_append.mpr (.inr (List.mem_append.mpr (.inl h)))))
theorem in_all4 : sp ∈ allA m1 m2 b sp := List.mem_append.mpr (.inr (List.mem_append.mpr (.inr (List.mem_append.mpr (.inr (.head _))))))
end
section
variable {w : World} {loose : List Str} {mean : ExcName → Option Value} {mg mb : Str → Option Value} {base : Heap}
variable {A A₀ : Around} {env : Env} {frs : List Env} {g : Heap} {L : Addr} {m : Str → Option Value} {pre nx : List (Addr × Obj)} {Q E : Value → Shared → Prop} {dp un : Nat} {gd : Option (List Code)} {hp : Heap} {gn : Array GenState} {dr : Drawn} {tk : Nat} {os : OsState}
variable {m1 m2 : MA} {b : BA} {sp : Addr} {spo : Obj} {cs : List Value} {xs : List Int} {n : Nat} {S1 S2 : MS} {K : BKS} {P : Int}
/-- a call's new objects join the tail -/
theorem law_news {led1 led2 pb : List (Addr × Obj)} {nd nd' fpo : List (Addr × Obj)} (hN : (allA m1 m2 b sp).Nodup) (a1 : adr led1 = six m1) (a2 : adr led2 = six m2) (a3 : adr pb = five b) (hfp : ∀ a ∈ adr fpo, a ∈ allA m1 m2 b sp)
    (hnd' : ∀ p ∈ nd', p.1 ∉ adr fpo) (hf : ∀ p ∈ nd', p.1 ∈ adr fpo ∨ ∀ q ∈ pre ++ (led1 ++ (led2 ++ (pb ++ ((sp, spo) :: nd)))), q.1 ≠ p.1) :
    (∀ p ∈ nd', p.1 ∉ allA m1 m2 b sp) ∧ ∀ p ∈ pre, ∀ q ∈ nd', q.1 ≠ p.1 := by
  have key : ∀ p ∈ nd', ∀ q ∈ pre ++ (led1 ++ (led2 ++ (pb ++ ((sp, spo) :: nd)))), q.1 ≠ p.1 := fun p hp => (hf p hp).resolve_left (hnd' p hp)
  refine ⟨fun p hp hm => ?_, fun p hp q hq e => key q hq p (List.mem_append.mpr (.inl hp)) e.symm⟩
  have z : p.1 ∈ adr (led1 ++ (led2 ++ (pb ++ [(sp, spo)]))) := by
    simp only [adr, List.map_append] at a1 a2 a3 ⊢
    rw [a1, a2, a3]; exact hm
  obtain ⟨q, hq, e⟩ := List.mem_map.mp z
  refine key p hp q (List.mem_append.mpr (.inr ?_)) e
  simp only [List.mem_append, List.mem_cons, List.not_mem_nil, or_false] at hq ⊢
  rcases hq with h | h | h | h <;> simp [h]
theorem tl_in {led1 led2 pb nd : List (Addr × Obj)} (a1 : adr led1 = six m1) (a2 : adr led2 = six m2) (a3 : adr pb = five b) {a : Addr} {o : Obj} (h : Tl (allA m1 m2 b sp) (led1 ++ (led2 ++ (pb ++ ((sp, spo) :: nd)))) a o) : (a, o) ∈ nd := by
  obtain ⟨h1, h2⟩ := h
  simp only [List.mem_append, List.mem_cons] at h1
  rcases h1 with q | q | q | q | q
  · exact absurd (in_all1 (a1 ▸ List.mem_map_of_mem (f := Prod.fst) q)) h2
  · exact absurd (in_all2 (a2 ▸ List.mem_map_of_mem (f := Prod.fst) q)) h2
  · exact absurd (in_all3 (a3 ▸ List.mem_map_of_mem (f := Prod.fst) q)) h2
  · cases q; exact absurd in_all4 h2
  · exact q
theorem tl_of {led1 led2 pb nd nd' : List (Addr × Obj)} (h' : ∀ p ∈ nd', p.1 ∉ allA m1 m2 b sp) (hs : ∀ p ∈ nd', p ∈ nd) {a : Addr} {o : Obj} (h : (a, o) ∈ nd') : Tl (allA m1 m2 b sp) (led1 ++ (led2 ++ (pb ++ ((sp, spo) :: nd)))) a o :=
  ⟨List.mem_append.mpr (.inr (List.mem_append.mpr (.inr (List.mem_append.mpr (.inr (.tail _ (hs _ h))))))), h' _ h⟩
/-- the ledger behind a call of the law's own readers -/
theorem law_step {h' : Heap} {e e' : Nat} {pos pos' : Int} {pt pt' : Tok} {res res' : Int} {rt rt' : Tok} {bo bo' : Obj} {fv fv' tv tv' : List Value} {fe fe' te te' : Nat} {led1 led2 nd nd' : List (Addr × Obj)} {K' : BKS} {P' : Int} (hN : (allA m1 m2 b sp).Nodup)
    (M1 : MkL w m1 S1 (Tl (allA m1 m2 b sp) (led1 ++ (led2 ++ (penL b.p b.c e pos pt res rt cs n ++ (booksL b.bk bo b.fl b.tk fv fe tv te ++ ((sp, spo) :: nd)))))) led1) (M2 : MkL w m2 S2 (Tl (allA m1 m2 b sp) (led1 ++ (led2 ++ (penL b.p b.c e pos pt res rt cs n ++ (booksL b.bk bo b.fl b.tk fv fe tv te ++ ((sp, spo) :: nd)))))) led2)
    (hnd : ∀ p ∈ nd, p.1 ∉ allA m1 m2 b sp) (hpre : ∀ p ∈ pre, ∀ q ∈ led1 ++ (led2 ++ (penL b.p b.c e pos pt res rt cs n ++ (booksL b.bk bo b.fl b.tk fv fe tv te ++ ((sp, spo) :: nd)))), q.1 ≠ p.1)
    (N' : News g L h' ((penL b.p b.c e' pos' pt' res' rt' cs n ++ (booksL b.bk bo' b.fl b.tk fv' fe' tv' te' ++ nd')) ++ (pre ++ (led1 ++ (led2 ++ ((sp, spo) :: nd))))))
    (hf' : ∀ p ∈ penL b.p b.c e' pos' pt' res' rt' cs n ++ (booksL b.bk bo' b.fl b.tk fv' fe' tv' te' ++ nd'), p.1 ∈ adr (penL b.p b.c e pos pt res rt cs n ++ booksL b.bk bo b.fl b.tk fv fe tv te) ∨ ∀ q ∈ (penL b.p b.c e pos pt res rt cs n ++ booksL b.bk bo b.fl b.tk fv fe tv te) ++ (pre ++ (led1 ++ (led2 ++ ((sp, spo) :: nd)))), q.1 ≠ p.1)
    (hne' : AllNe [b.p, b.c, b.bk, b.fl, b.tk] nd') (q0 : 0 ≤ pos') (q1 : pos' ≤ P') (q2 : 0 ≤ res') (hB' : BooksOn w b bo' fv' tv' K') :
    ∃ nx', News g L h' (pre ++ nx') ∧ (∀ p ∈ pre, ∀ q ∈ nx', q.1 ≠ p.1) ∧ LawL w m1 m2 b sp spo cs n S1 S2 K' P' nx' ∧ ∀ a o, (a, o) ∈ nd' → Tl (allA m1 m2 b sp) nx' a o := by
  have a1 := mk_adr M1
  have a2 := mk_adr M2
  obtain ⟨k1, k2⟩ := law_news (spo := spo) (pre := pre) (led1 := led1) (led2 := led2) (nd := nd) (nd' := nd') (pb := penL b.p b.c e pos pt res rt cs n ++ booksL b.bk bo b.fl b.tk fv fe tv te) (fpo := penL b.p b.c e pos pt res rt cs n ++ booksL b.bk bo b.fl b.tk fv fe tv te) hN a1 a2 rfl (fun a ha => in_all3 ha) (fun p hp => hne'.all p hp) (fun p hp => by
    rcases hf' p (List.mem_append.mpr (.inr (List.mem_append.mpr (.inr hp)))) with z | z
    · exact .inl z
    · exact .inr fun q hq => z q (mv3 q hq))
  have hnd2 : ∀ p ∈ nd' ++ nd, p.1 ∉ allA m1 m2 b sp := fun p hp => (List.mem_append.mp hp).elim (k1 p) (hnd p)
  have mono : ∀ a o, Tl (allA m1 m2 b sp) (led1 ++ (led2 ++ (penL b.p b.c e pos pt res rt cs n ++ (booksL b.bk bo b.fl b.tk fv fe tv te ++ ((sp, spo) :: nd))))) a o → Tl (allA m1 m2 b sp) (led1 ++ (led2 ++ (penL b.p b.c e' pos' pt' res' rt' cs n ++ (booksL b.bk bo' b.fl b.tk fv' fe' tv' te' ++ ((sp, spo) :: (nd' ++ nd)))))) a o := fun a o h => by
    rw [← List.append_assoc (penL _ _ _ _ _ _ _ _ _)] at h ⊢
    exact tl_of hnd2 (fun _ h => h) (List.mem_append.mpr (.inr (tl_in (pb := penL b.p b.c e pos pt res rt cs n ++ booksL b.bk bo b.fl b.tk fv fe tv te) a1 a2 rfl h)))
  refine ⟨led1 ++ (led2 ++ (penL b.p b.c e' pos' pt' res' rt' cs n ++ (booksL b.bk bo' b.fl b.tk fv' fe' tv' te' ++ ((sp, spo) :: (nd' ++ nd))))), News.subl N' mv2, fun p hp q hq => ?_, ⟨led1, led2, bo', fv', fe', tv', te', e', pos', pt', res', rt', nd' ++ nd, rfl, M1.mono mono, M2.mono mono, q0, q1, q2, hB', hnd2⟩, fun a o h => ?_⟩
  · have old : ∀ q ∈ led1 ++ (led2 ++ (penL b.p b.c e pos pt res rt cs n ++ (booksL b.bk bo b.fl b.tk fv fe tv te ++ ((sp, spo) :: nd)))), q.1 ≠ p.1 := hpre p hp
    have new : ∀ a ∈ [b.p, b.c] ++ [b.bk, b.fl, b.tk], a ≠ p.1 := adr_old (pb := penL b.p b.c e pos pt res rt cs n ++ booksL b.bk bo b.fl b.tk fv fe tv te) rfl fun q hq => old q (by
      rcases List.mem_append.mp hq with hq | hq
      · exact List.mem_append.mpr (.inr (List.mem_append.mpr (.inr (List.mem_append.mpr (.inl hq)))))
      · exact List.mem_append.mpr (.inr (List.mem_append.mpr (.inr (List.mem_append.mpr (.inr (List.mem_append.mpr (.inl hq))))))))
    rcases mv4 hq with h | h | h | h | rfl | h | h
    · exact old q (List.mem_append.mpr (.inl h))
    · exact old q (List.mem_append.mpr (.inr (List.mem_append.mpr (.inl h))))
    · exact new _ (List.mem_append.mpr (.inl (List.mem_map_of_mem (f := Prod.fst) h)))
    · exact new _ (List.mem_append.mpr (.inr (List.mem_map_of_mem (f := Prod.fst) h)))
    · exact old (sp, spo) (by simp)
    · exact k2 p hp q h
    · exact old q (by simp [h])
  · rw [← List.append_assoc (penL _ _ _ _ _ _ _ _ _)]
    exact tl_of hnd2 (fun _ h => h) (List.mem_append.mpr (.inl h))
/-- the pen and the books stand apart from the rest -/
theorem law_apart {e : Nat} {pos : Int} {pt : Tok} {res : Int} {rt : Tok} {bo : Obj} {fv tv : List Value} {fe te : Nat} {led1 led2 nd : List (Addr × Obj)} (hN : (allA m1 m2 b sp).Nodup) (a1 : adr led1 = six m1) (a2 : adr led2 = six m2) (hnd : ∀ p ∈ nd, p.1 ∉ allA m1 m2 b sp)
    (hpre : ∀ p ∈ pre, ∀ q ∈ led1 ++ (led2 ++ (penL b.p b.c e pos pt res rt cs n ++ (booksL b.bk bo b.fl b.tk fv fe tv te ++ ((sp, spo) :: nd)))), q.1 ≠ p.1) : AllNe (five b) (pre ++ (led1 ++ (led2 ++ ((sp, spo) :: nd)))) := by
  obtain ⟨n1, n2, n3⟩ := nodup_sep hN
  refine ne_of_off fun p hp hm => ?_
  simp only [List.mem_append] at hp
  rcases hp with h | h | h | h
  · refine adr_old (pb := penL b.p b.c e pos pt res rt cs n ++ booksL b.bk bo b.fl b.tk fv fe tv te) (l := five b) rfl (fun q hq => hpre p h q ?_) _ hm rfl
    rcases List.mem_append.mp hq with hq | hq
    · exact List.mem_append.mpr (.inr (List.mem_append.mpr (.inr (List.mem_append.mpr (.inl hq)))))
    · exact List.mem_append.mpr (.inr (List.mem_append.mpr (.inr (List.mem_append.mpr (.inr (List.mem_append.mpr (.inl hq)))))))
  · exact n1 _ (a1 ▸ List.mem_map_of_mem (f := Prod.fst) h) (List.mem_append.mpr (.inr (List.mem_append.mpr (.inl hm))))
  · exact n2 _ (a2 ▸ List.mem_map_of_mem (f := Prod.fst) h) (List.mem_append.mpr (.inl hm))
  · rcases List.mem_cons.mp h with rfl | h
    · exact n3 hm
    · exact hnd p h (in_all3 hm)
theorem good_use (hN : (allA m1 m2 b sp).Nodup) (o : b.Ok) (hbs : (b.bk == sysModules) = false) (hi : IntsAre cs xs) (hn : cs.length < 100) (H : LawL w m1 m2 b sp spo cs n S1 S2 K P nx) (hP : P < 800000) (hpre : ∀ p ∈ pre, ∀ q ∈ nx, q.1 ≠ p.1)
    (X : (frag.heap_1 w.params).In base) (T : Top view loose mean mg mb base) (B : Below A₀ base frs g) (F : Fr g L hp m) (N : News g L hp (pre ++ nx))
    (hA : A = Ar dp un gd (env :: frs)) (hL : env.frame = some L) (hke : env.scope.kind ≠ .module) (hd : dp + 8 < recursionLimit) (hu : un + 8 * 8 < cLine)
    (ret : ∀ v c K' h' tk' nx', Fr g L h' m → News g L h' (pre ++ nx') → (∀ p ∈ pre, ∀ q ∈ nx', q.1 ≠ p.1) → LawL w m1 m2 b sp spo cs n S1 S2 K' (P + 20) nx' → GoodStep K c K' → CallOn (Tl (allA m1 m2 b sp) nx') v c → Q v ⟨h', gn, dr, tk', os⟩) :
    wpAny (model prg w) A (call (.ref 363) [.ref b.p, .ref b.bk]) Q E ⟨hp, gn, dr, tk, os⟩ := by
  obtain ⟨led1, led2, bo, fv, fe, tv, te, e, pos, pt, res, rt, nd, rfl, M1, M2, p0, p1, r0, hB, hnd⟩ := H
  refine useP (s := ⟨hp, gn, dr, tk, os⟩) (law_good o hB hbs hi hn p0 (by omega) r0) X T B F (News.subl N mv1) hA hL hke hd hu (Pick.front _ _) (law_apart hN (mk_adr M1) (mk_adr M2) hnd hpre) (fun v h' tk' news' F' N' hf' _ po => ?_) fun f => f.elim
  obtain ⟨e', pos', pt', res', rt', bo', fv', fe', tv', te', K', nd', c, rfl, q0, q1, q2, hB', hG, hC, hne'⟩ := po
  obtain ⟨nx', N2, A2, L2, T2⟩ := law_step (P' := P + 20) hN M1 M2 hnd hpre N' hf' hne' q0 (by omega) q2 hB'
  exact ret v c K' h' tk' nx' F' N2 A2 L2 hG (hC.mono T2)
theorem bad_use (hN : (allA m1 m2 b sp).Nodup) (o : b.Ok) (hbs : (b.bk == sysModules) = false) (hi : IntsAre cs xs) (hn : cs.length < 100) (H : LawL w m1 m2 b sp spo cs n S1 S2 K P nx) (hP : P < 800000) (hpre : ∀ p ∈ pre, ∀ q ∈ nx, q.1 ≠ p.1)
    (X : (frag.heap_1 w.params).In base) (T : Top view loose mean mg mb base) (B : Below A₀ base frs g) (F : Fr g L hp m) (N : News g L hp (pre ++ nx))
    (hA : A = Ar dp un gd (env :: frs)) (hL : env.frame = some L) (hke : env.scope.kind ≠ .module) (hd : dp + 8 < recursionLimit) (hu : un + 8 * 8 < cLine)
    (ret : ∀ v c h' tk' nx', Fr g L h' m → News g L h' (pre ++ nx') → (∀ p ∈ pre, ∀ q ∈ nx', q.1 ≠ p.1) → LawL w m1 m2 b sp spo cs n S1 S2 K (P + 30) nx' → BadStep K c → calFits c → CallOn (Tl (allA m1 m2 b sp) nx') v c → Q v ⟨h', gn, dr, tk', os⟩) :
    wpAny (model prg w) A (call (.ref 370) [.ref b.p, .ref b.bk]) Q E ⟨hp, gn, dr, tk, os⟩ := by
  obtain ⟨led1, led2, bo, fv, fe, tv, te, e, pos, pt, res, rt, nd, rfl, M1, M2, p0, p1, r0, hB, hnd⟩ := H
  refine useP (s := ⟨hp, gn, dr, tk, os⟩) (law_bad o hB hbs hi hn p0 (by omega) r0) X T B F (News.subl N mv1) hA hL hke hd hu (Pick.front _ _) (law_apart hN (mk_adr M1) (mk_adr M2) hnd hpre) (fun v h' tk' news' F' N' hf' _ po => ?_) fun f => f.elim
  obtain ⟨e', pos', pt', res', rt', nd', c, rfl, q0, q1, q2, hS, hcf, hC, hne'⟩ := po
  obtain ⟨nx', N2, A2, L2, T2⟩ := law_step (P' := P + 30) hN M1 M2 hnd hpre N' hf' hne' q0 (by omega) q2 hB
  exact ret v c h' tk' nx' F' N2 A2 L2 hS hcf (hC.mono T2)
theorem mv5 {α : Type} {pre l1 l2 p b : List α} : ∀ q ∈ l1 ++ (pre ++ (l2 ++ (p ++ (b)))), q ∈ pre ++ (l1 ++ (l2 ++ (p ++ b))) := by
  intro q h
  simp only [List.mem_append] at h ⊢
  rcases h with h | h | h | h | h <;> simp [h]
theorem mv6 {α : Type} {pre l1 l2 p b n nd : List α} {s : α} : ∀ q ∈ pre ++ (l1 ++ (l2 ++ (p ++ (b ++ (s :: (n ++ nd)))))), q ∈ (l1 ++ n) ++ (pre ++ (l2 ++ (p ++ (b ++ (s :: nd))))) := by
  intro q h
  simp only [List.mem_append, List.mem_cons] at h ⊢
  rcases h with h | h | h | h | h | h | h | h <;> simp [h]
theorem mv7 {α : Type} {pre l1 l2 p b nd : List α} {s : α} : ∀ q ∈ pre ++ (l1 ++ (l2 ++ ((p ++ b) ++ (s :: nd)))), q ∈ l1 ++ (pre ++ (l2 ++ (p ++ (b ++ (s :: nd))))) := by
  intro q h
  simp only [List.mem_append, List.mem_cons] at h ⊢
  rcases h with h | h | h | (h | h) | h | h <;> simp [h]
theorem let_use (hN : (allA m1 m2 b sp).Nodup) (o : m1.Ok) (hsy : (m1.lv == sysModules) = false) (H : LawL w m1 m2 b sp spo cs n S1 S2 K P nx) (hS : MFit S1) {v : Value} {c : Cal} (hcf : calFits c) (hc : CallOn (Tl (allA m1 m2 b sp) nx) v c) (hpre : ∀ p ∈ pre, ∀ q ∈ nx, q.1 ≠ p.1)
    (X : (frag.heap_1 w.params).In base) (T : Top view loose mean mg mb base) (B : Below A₀ base [] g) (F : Fr g L hp m) (N : News g L hp (pre ++ nx))
    (hA : A = Ar dp un gd [env]) (hL : env.frame = some L) (hke : env.scope.kind ≠ .module) (hd : dp + 12 < recursionLimit) (hu : un + 8 * 12 < cLine)
    (ret : ∀ r S1' h' tk' nx', Fr g L h' m → News g L h' (pre ++ nx') → (∀ p ∈ pre, ∀ q ∈ nx', q.1 ≠ p.1) → LawL w m1 m2 b sp spo cs n S1' S2 K P nx' → (∀ a o, Tl (allA m1 m2 b sp) nx a o → Tl (allA m1 m2 b sp) nx' a o) → ((calOk S1 c ∧ r = true ∧ S1' = calDo S1 c) ∨ (¬ calOk S1 c ∧ r = false ∧ S1' = S1)) → Q (.bool r) ⟨h', gn, dr, tk', os⟩) :
    wpAny (model prg w) A (call (.ref 377) [.ref m1.x, v]) Q E ⟨hp, gn, dr, tk, os⟩ := by
  obtain ⟨led1, led2, bo, fv, fe, tv, te, e, pos, pt, res, rt, nd, rfl, M1, M2, p0, p1, r0, hB, hnd⟩ := H
  have a1 := mk_adr M1
  have a2 := mk_adr M2
  obtain ⟨n1, n2, n3⟩ := nodup_sep hN
  have hne : AllNe (adr led1) (pre ++ (led2 ++ (penL b.p b.c e pos pt res rt cs n ++ (booksL b.bk bo b.fl b.tk fv fe tv te ++ ((sp, spo) :: nd))))) := by
    rw [a1]
    refine ne_of_off fun p hp hm => ?_
    rcases List.mem_append.mp hp with h | h
    · exact adr_old a1 (fun q hq => hpre p h q (List.mem_append.mpr (.inl hq))) _ hm rfl
    · rcases List.mem_append.mp h with h | h
      · exact n1 _ hm (List.mem_append.mpr (.inl (a2 ▸ List.mem_map_of_mem (f := Prod.fst) h)))
      · rw [← List.append_assoc] at h
        rcases List.mem_append.mp h with h | h
        · exact n1 _ hm (List.mem_append.mpr (.inr (List.mem_append.mpr (.inl ((List.mem_map_of_mem (f := Prod.fst) h : p.1 ∈ adr (penL b.p b.c e pos pt res rt cs n ++ booksL b.bk bo b.fl b.tk fv fe tv te)) : p.1 ∈ five b)))))
        · rcases List.mem_cons.mp h with rfl | h
          · exact n1 _ hm (List.mem_append.mpr (.inr (List.mem_append.mpr (.inr (.head _)))))
          · exact hnd p h (in_all1 hm)
  refine useT (s := ⟨hp, gn, dr, tk, os⟩) (is_let o hsy M1 hS hcf fun g9 k => hc.mono fun a o h => k a o (N (a, o) (List.mem_append.mpr (.inr h.1))).1 fun z => h.2 (in_all1 z)) X T B F (News.subl N mv5) hA hL hke hd hu (Pick.front _ _) hne fun v' h' tk' news' F' N' hf' po => ?_
  have fin : ∀ r S1' led nd', news' = led ++ nd' → MkL w m1 S1' (fun a o => Tl (allA m1 m2 b sp) (led1 ++ (led2 ++ (penL b.p b.c e pos pt res rt cs n ++ (booksL b.bk bo b.fl b.tk fv fe tv te ++ ((sp, spo) :: nd))))) a o ∨ (a, o) ∈ nd') led → AllNe (six m1) nd' → ((calOk S1 c ∧ r = true ∧ S1' = calDo S1 c) ∨ (¬ calOk S1 c ∧ r = false ∧ S1' = S1)) → Q (.bool r) ⟨h', gn, dr, tk', os⟩ := by
    intro r S1' led nd' en hM hA' hr
    subst en
    have a1' := mk_adr hM
    obtain ⟨k1, k2⟩ := law_news (spo := spo) (pre := pre) (led1 := led1) (led2 := led2) (nd := nd) (nd' := nd') (pb := penL b.p b.c e pos pt res rt cs n ++ booksL b.bk bo b.fl b.tk fv fe tv te) (fpo := led1) hN a1 a2 rfl (fun a ha => in_all1 (a1 ▸ ha)) (fun p hp => by rw [a1]; exact hA'.all p hp) (fun p hp => by
      rcases hf' p (List.mem_append.mpr (.inr hp)) with z | z
      · exact .inl z
      · exact .inr fun q hq => z q (mv7 q hq))
    have hnd2 : ∀ p ∈ nd' ++ nd, p.1 ∉ allA m1 m2 b sp := fun p hp => (List.mem_append.mp hp).elim (k1 p) (hnd p)
    have mono : ∀ a o, Tl (allA m1 m2 b sp) (led1 ++ (led2 ++ (penL b.p b.c e pos pt res rt cs n ++ (booksL b.bk bo b.fl b.tk fv fe tv te ++ ((sp, spo) :: nd))))) a o → Tl (allA m1 m2 b sp) (led ++ (led2 ++ (penL b.p b.c e pos pt res rt cs n ++ (booksL b.bk bo b.fl b.tk fv fe tv te ++ ((sp, spo) :: (nd' ++ nd)))))) a o := fun a o h => by
      rw [← List.append_assoc (penL _ _ _ _ _ _ _ _ _)] at h ⊢
      exact tl_of hnd2 (fun _ h => h) (List.mem_append.mpr (.inr (tl_in (pb := penL b.p b.c e pos pt res rt cs n ++ booksL b.bk bo b.fl b.tk fv fe tv te) a1 a2 rfl h)))
    have new : ∀ a o, (a, o) ∈ nd' → Tl (allA m1 m2 b sp) (led ++ (led2 ++ (penL b.p b.c e pos pt res rt cs n ++ (booksL b.bk bo b.fl b.tk fv fe tv te ++ ((sp, spo) :: (nd' ++ nd)))))) a o := fun a o h => by
      rw [← List.append_assoc (penL _ _ _ _ _ _ _ _ _)]
      exact tl_of hnd2 (fun _ h => h) (List.mem_append.mpr (.inl h))
    refine ret r S1' h' tk' _ F' (News.subl N' mv6) (fun p hp q hq => ?_) ⟨led, led2, bo, fv, fe, tv, te, e, pos, pt, res, rt, nd' ++ nd, rfl, hM.mono fun a o h => h.elim (mono a o) (new a o), M2.mono mono, p0, p1, r0, hB, hnd2⟩ mono hr
    have old : ∀ q ∈ led1 ++ (led2 ++ (penL b.p b.c e pos pt res rt cs n ++ (booksL b.bk bo b.fl b.tk fv fe tv te ++ ((sp, spo) :: nd)))), q.1 ≠ p.1 := hpre p hp
    rcases mv4 hq with h | h | h | h | rfl | h | h
    · exact adr_old a1 (fun q hq => old q (List.mem_append.mpr (.inl hq))) _ (a1' ▸ List.mem_map_of_mem (f := Prod.fst) h)
    · exact old q (List.mem_append.mpr (.inr (List.mem_append.mpr (.inl h))))
    · exact old q (List.mem_append.mpr (.inr (List.mem_append.mpr (.inr (List.mem_append.mpr (.inl h))))))
    · exact old q (List.mem_append.mpr (.inr (List.mem_append.mpr (.inr (List.mem_append.mpr (.inr (List.mem_append.mpr (.inl h))))))))
    · exact old (sp, spo) (by simp)
    · exact k2 p hp q h
    · exact old q (by simp [h])
  rcases po with ⟨hok, rfl, led, nd', en, hM, hA'⟩ | ⟨hno, rfl, hM⟩
  · exact fin true _ led nd' en hM hA' (.inl ⟨hok, rfl, rfl⟩)
  · exact fin false _ news' [] (List.append_nil _).symm (hM.mono fun _ _ => .inl) True.intro (.inr ⟨hno, rfl, rfl⟩)
theorem mem_swap {α : Type} {p : α} {a b c : List α} : p ∈ a ++ (b ++ c) ↔ p ∈ b ++ (a ++ c) := by
  simp only [List.mem_append]
  constructor
  · rintro (h | h | h) <;> simp [h]
  · rintro (h | h | h) <;> simp [h]
/-- the two makers change places -/
theorem LawL.swap (H : LawL w m1 m2 b sp spo cs n S1 S2 K P nx) : ∃ nx', (∀ p, p ∈ nx' ↔ p ∈ nx) ∧ LawL w m2 m1 b sp spo cs n S2 S1 K P nx' := by
  obtain ⟨led1, led2, bo, fv, fe, tv, te, e, pos, pt, res, rt, nd, rfl, M1, M2, p0, p1, r0, hB, hnd⟩ := H
  have hm : ∀ p, p ∈ led2 ++ (led1 ++ (penL b.p b.c e pos pt res rt cs n ++ (booksL b.bk bo b.fl b.tk fv fe tv te ++ ((sp, spo) :: nd)))) ↔ p ∈ led1 ++ (led2 ++ (penL b.p b.c e pos pt res rt cs n ++ (booksL b.bk bo b.fl b.tk fv fe tv te ++ ((sp, spo) :: nd)))) := fun p => mem_swap
  have ha : ∀ a, a ∈ allA m2 m1 b sp ↔ a ∈ allA m1 m2 b sp := fun a => mem_swap
  have mono : ∀ a o, Tl (allA m1 m2 b sp) (led1 ++ (led2 ++ (penL b.p b.c e pos pt res rt cs n ++ (booksL b.bk bo b.fl b.tk fv fe tv te ++ ((sp, spo) :: nd))))) a o → Tl (allA m2 m1 b sp) (led2 ++ (led1 ++ (penL b.p b.c e pos pt res rt cs n ++ (booksL b.bk bo b.fl b.tk fv fe tv te ++ ((sp, spo) :: nd))))) a o := fun a o h => ⟨(hm _).mpr h.1, fun z => h.2 ((ha a).mp z)⟩
  exact ⟨_, hm, led2, led1, bo, fv, fe, tv, te, e, pos, pt, res, rt, nd, rfl, M2.mono mono, M1.mono mono, p0, p1, r0, hB, fun p hp z => hnd p hp ((ha _).mp z)⟩
end
theorem words_B30 : True := by
  k_with_none
  k_with "ktr_room" =>
    ((try simp only [depth_under_make, depth_under_kw, depth_in1, depth_deeper]); (try dsimp only [Ar]); omega)
  k_with "ktr_units" =>
    ((try simp only [units_in1, units_deeper, Around.mark_units]); (try dsimp only [Ar]); omega)
  k_with "ktr_enter" =>
    (
      intro frs dp un gd s R hs G hap hd hu ret err
      subst hs
      have X := G.X
      have T := G.T
      k_dflt (
        refine' enterP G _ ?k1 hap ?k3 ?k4 ?k5 ?k6 ?k8 ?k7 ?_ ?c2 ?c3 ?c4 ?c5
        (case k3 => k_is)
        (case k4 => k_is)
        (case k1 => assumption)
        (case k5 => omega)
        (case k6 => exact rfl)
        (case k8 => (refine' zr_of ?zra ?zrb; (case zra => (dsimp only [List.map_cons, List.map_nil]; try exact rfl)); (case zrb => first | exact zr1 | exact zr2 | exact zr3 | exact zr4 | exact zr5 | exact zr6 | exact zr7 | exact zr8)))
        (case k7 => exact locs rfl)
        (case c2 => exact rfl)
        (case c3 => exact rfl)
        (case c4 => exact rfl)
        (case c5 => decide)
        k_whole
        intro g' L' h' tk' gk' F' N' B' X' T'
        (try dsimp only [mled] at N')
        (try dsimp only)
        (try k_fold)))
  k_with "ktr_step" =>
    (
      intro frs dp un gd s R hs G hap hd hu ret err
      subst hs
      have X := G.X
      have T := G.T
      have Xs : (frag.heap_1 w.params).In s.heap := X.keeps G.st
      k_dflt (
        refine' enter G _ ?k1 hap ?k3 ?k4 ?k5 ?k6 ?k7 ?_ ?c2 ?c3 ?c4 ?c5
        (case k3 => k_is)
        (case k4 => k_is)
        (case k1 => assumption)
        (case k5 => omega)
        (case k6 => first | exact BindsTo.of_eq rfl | exact binds_K Xs rfl (by k_is) rfl rfl rfl)
        (case k7 => exact locs rfl)
        (case c2 => exact rfl)
        (case c3 => exact rfl)
        (case c4 => exact rfl)
        (case c5 => decide)
        k_whole
        intro g' L' h' gk' F' N' B' X' T'
        (try dsimp only [mled] at N')
        (try dsimp only)
        (try k_fold)))
  k_with "exec Raise some none" =>
    (k_dflt (refine' Raise_ge X T B' ?F X' T' ?d ?u ?a ?b ?c ?_; (case F => k_asm); (case d => ktr_room); (case u => ktr_units); (case a => exact rfl); (case b => exact rfl); (case c => exact rfl)))
  k_with "k_room" =>
    ktr_room
  k_with "call type:range" =>
    (k_dflt (refine' range1_rows ?F ?N ?_; (case F => k_asm); (case N => k_asm); intro h' tk' t1' u1' v1' R' F' N' kp'))
  k_with "exec For" =>
    (k_dflt (refine' For_own ?_ ?s; (case s => intro _; rfl)))
  k_with "ktr_rel" =>
    (
      (case F => k_asm)
      (case N => k_asm)
      (case A => exact rfl)
      (case L => exact rfl)
      (case K => intro h9; cases h9)
      (case d => ktr_room)
      (case u => ktr_units)
      (case e => intro h9; cases h9)
      intro h' tk' F' N'
      (try k_sweep))
  k_with "ktn_open" =>
    first | exact Rm.head | (apply Rm.tail; ktn_open)
  k_with "tb_start" =>
    first | exact Pick.nil | (refine' Pick.cons ?pka ?pkb; (case pka => ktn_open); (case pkb => tb_start))
  k_with "k_memK" =>
    first | exact ne0 | (refine ne1 ?x ?_; (case x => ((try dsimp only); omega)); k_memK)
  k_with "k_allIn" =>
    first | exact True.intro | (refine And.intro ?h ?_; (case h => k_memK); k_allIn)
  k_with "tb_rel" =>
    (
      (case F => k_asm)
      (case N => k_asm)
      (case A => exact rfl)
      (case L => exact rfl)
      (case K => intro h9; cases h9)
      (case d => ktr_room)
      (case u => ktr_units)
      (case e => intro h9; cases h9)
      (case P => tb_start)
      (case ne => k_allIn))
  k_with "compareOp In str ref" =>
    (k_dflt (refine' in_list_strs ?l ?i ?_; (case l => exact isL (by k_asm) (by k_mem)); (case i => assumption)))
  k_with "compareOp NotIn str ref" =>
    (k_dflt (refine' notin_list_strs ?l ?i ?_; (case l => exact isL (by k_asm) (by k_mem)); (case i => assumption)))
  k_with "call builtin:list.append" =>
    (k_dflt (refine' append_L ?k1 ?k2 ?k3 ?z ?_; (case k1 => k_asm); (case k2 => k_asm); (case k3 => k_upd); (case z => first | omega | (simp only [List.length_append, List.length_cons, List.length_nil]; omega)); k_whole); intro h' F' N'; (try k_sweep))
  k_with "call ref" =>
    (k_dflt (
      (first
      | (refine' use0 (is_kept ?a) X T B' ?F ?N ?A ?L ?K ?d ?u ?_ ?e; (case a => assumption))
      | (refine' use0 (is_literal ?a) X T B' ?F ?N ?A ?L ?K ?d ?u ?_ ?e; (case a => assumption))
      | (refine' use0 (check_name ?a ?b) X T B' ?F ?N ?A ?L ?K ?d ?u ?_ ?e; (case a => assumption); (case b => assumption)))
      ktr_rel))
  k_with "boot_fact" =>
    (refine' News.subl ?nwN ?nwS; (case nwN => k_asm); (case nwS => (intro p hp; repeat (first | with_reducible exact hp | with_reducible refine List.mem_cons_of_mem _ ?_))))
  k_with "mem_news" =>
    (with_reducible_and_instances (repeat (first | exact List.Mem.head _ | refine List.Mem.tail _ ?_)))
  k_with "call ref" =>
    (k_dflt (
      (with_reducible show wpAny _ _ (call (Value.ref 207) _) _ _ _)
      (refine' useX (check_name_any ?a) X T B' ?F ?N ?A ?L ?K ?d ?u ?_ ?e)
      (case a => assumption)
      (case F => k_asm)
      (case N => k_asm)
      (case A => exact rfl)
      (case L => exact rfl)
      (case K => intro h9; cases h9)
      (case d => ktr_room)
      (case u => ktr_units)
      (case e => intro hx9 e9 h9 tk9 fl9; refine pass_out gk' (fun p hp => (fp p hp).1) (by k_asm) ?_ fl9 fun h2 f2 => err ?_ _ _ _ f2; boot_fact; nest_cls)
      intro h' tk' F' N' hx'
      (try k_sweep)))
  k_with "kas_types" =>
    exact map4 (a := Str.ofString "text") (b := Str.ofString "kind") (c := Str.ofString "at") (d := Str.ofString "action") rfl rfl rfl rfl (fun y h1 h2 h3 h4 => by simp only [if_neg h1, if_neg h2, if_neg h3, if_neg h4])
  k_with "krn_off" =>
    (
      intro frs dp un gd s R hs G hap hd hu ret err
      subst hs
      have X := G.X
      have T := G.T
      have Xs : (frag.heap_1 w.params).In s.heap := X.keeps G.st
      k_dflt (
        refine' enterPd G _ ?k1 hap ?k3 ?k4 ?k5 ?k6 ?k8 ?k7 ?_ ?c2 ?c3 ?c4 ?c5
        (case k3 => k_is)
        (case k4 => k_is)
        (case k1 => assumption)
        (case k5 => omega)
        (case k6 => exact binds_K Xs rfl (by k_is) rfl rfl rfl)
        (case k8 => (refine' zr_of ?zra ?zrb; (case zra => (dsimp only [List.map_cons, List.map_nil]; try exact rfl)); (case zrb => first | exact zr1 | exact zr2 | exact zr3 | exact zr4 | exact zr5 | exact zr6 | exact zr7 | exact zr8)))
        (case k7 => exact locs rfl)
        (case c2 => exact rfl)
        (case c3 => exact rfl)
        (case c4 => exact rfl)
        (case c5 => decide)
        k_whole
        intro g' L' h' tk' gk' F' N' B' X' T'
        (try dsimp only [mled] at N')
        (try dsimp only)
        (try k_fold)))
  k_with "k_all" =>
    first | exact List.forall_mem_nil _ | with_reducible assumption | exact allLt_ne (by with_reducible assumption) | (refine' List.forall_mem_cons.mpr ⟨?a, ?b⟩; (case a => k_ne); (case b => k_all))
  k_with "k_allIn" =>
    first | exact True.intro | exact hAN | (refine And.intro ?h ?_; (case h => k_memK); k_allIn)
  k_with "call ref" =>
    (k_dflt (
      (with_reducible show wpAny _ _ (call (Value.ref 235) _) _ _ _)
      (refine' useX (check_rule_any ?a ?b ?c ?v ?ps ?po) X T B' ?F ?N ?A ?L ?K ?d ?u ?_ ?e)
      (case a => assumption)
      (case v => assumption)
      (case F => k_asm)
      (case N => k_asm)
      (case A => exact rfl)
      (case L => exact rfl)
      (case K => intro h9; cases h9)
      (case d => ktr_room)
      (case u => ktr_units)
      (case ps => assumption)
      (case po => assumption)
      (case b => exact IsList_Fr (by k_asm) (by assumption))
      (case c => exact PartsOn_Fr (by k_asm) (by assumption))
      (case e => intro hx9 e9 h9 tk9 fl9; first | (rw [hok] at hx9; cases hx9) | (refine pass_out gk' (fun p hp => (fp p hp).1) (by k_asm) ?_ fl9 fun h2 f2 => err ?_ _ _ _ f2; boot_fact; nest_cls))
      intro h' tk' F' N' hx'
      (try k_sweep)))
  k_with "call builtin:len" =>
    ((with_reducible show wpAny _ _ (call (Value.builtin "len") [Value.ref _]) _ _ _); k_dflt (refine' len_L ?l ?z ?_; (case l => first | exact IsList_Fr (by k_asm) (by with_reducible assumption) | exact isL (by k_asm) (by with_reducible k_mem)); (case z => first | omega | (simp only [List.length_append, List.length_cons, List.length_nil]; omega)); k_whole))
  k_with "subscriptTail Name Name ref int" =>
    (k_dflt (refine' item_B ?l ?i ?z ?_; (case l => exact IsList_Fr (by k_asm) (by assumption)); (case i => assumption); (case z => omega); k_whole))
  k_with "exec For Name Call cons nil" =>
    (k_dflt (refine' For_own ?_ ?s; (case s => intro _; rfl)))
  k_with "assign Tuple" =>
    (k_here; (with_reducible show wpAny _ _ (assign (Expr.Tuple _ _ _) _ (Value.ref _)) _ _ _); k_dflt (refine' unpackN_ ?F ?N ?T ?k1 ?k2 ?k3 ?_; (case F => k_asm); (case N => k_asm); (case T => exact IsTup_Fr (by k_asm) (by with_reducible assumption)); (case k1 => exact rfl); (case k2 => exact rfl); (case k3 => exact rfl)); intro h' F' N'; (try k_sweep))
  k_with "k_ne" =>
    (refine neN ?_; (try dsimp only); first | with_reducible exact Nat.ne_of_lt (by with_reducible assumption) | with_reducible exact Nat.ne_of_gt (by with_reducible assumption) | with_reducible assumption | with_reducible exact Ne.symm (by with_reducible assumption) | omega)
  k_with "k_memK" =>
    first | exact ne0 | (refine ne1 ?kmx ?_; (case kmx => k_ne); k_memK)
  k_with "ktr_room" =>
    ((try simp only [depth_under_make, depth_under_kw, depth_in1, depth_deeper]); (try dsimp only [Ar]); first | exact room1 (by with_reducible assumption) (by decide) | exact room2 (by with_reducible assumption) (by decide) | omega)
  k_with "ktr_units" =>
    ((try simp only [units_in1, units_deeper, Around.mark_units]); (try dsimp only [Ar]); first | exact units1 (by with_reducible assumption) (by decide) | exact units2 (by with_reducible assumption) (by decide) | exact units3 (by with_reducible assumption) (by decide) | omega)
  k_with "atoms" =>
    first | exact Atoms.nil | (refine' Atoms.str ?amn; (case amn => k_extra "atoms")) | (refine' Atoms.int ?amn; (case amn => k_extra "atoms")) | (refine' Atoms.none ?amn; (case amn => k_extra "atoms")) | (refine' Atoms.name ?amv ?amx ?amd ?amn; (case amv => exact rfl); (case amx => exact rfl); (case amd => decide); (case amn => k_extra "atoms"))
  k_with "spliced" =>
    ((try dsimp only); k_dflt (refine' spliced_atoms ?saF ?sae ?saH ?_ ?sak; (case saF => k_asm); (case sae => exact rfl); (case sak => exact rfl); (case saH => k_extra "atoms"); k_whole))
  k_with "eval Tuple" =>
    ((try dsimp only); k_dflt (refine' tuple_atoms ?saF ?saN ?sae ?saH ?saz ?_ ?sak; (case saF => k_asm); (case sae => exact rfl); (case saN => k_asm); (case sak => exact rfl); (case saH => k_extra "atoms"); (case saz => kmk_size)); intro D' h' F' N' l1; (try k_lt l1); (try k_sweep))
  k_with "eval List" =>
    ((try dsimp only); k_dflt (refine' list_atoms ?saF ?saN ?sae ?saH ?saz ?_ ?sak; (case saF => k_asm); (case sae => exact rfl); (case saN => k_asm); (case sak => exact rfl); (case saH => k_extra "atoms"); (case saz => kmk_size); k_whole); intro l' h' F' N' l1; (try k_lt l1); (try k_sweep))
  k_with "eval Call" =>
    ((try dsimp only); k_dflt (refine' call_atoms ?saF ?saX ?saT ?saE ?sae ?sakp ?saH ?_ ?sax ?sad ?sas ?sap ?sak; (case saF => k_asm); (case saE => exact rfl); (case saX => k_asm); (case saT => k_asm); (case sax => exact rfl); (case sae => k_is); (case sakp => k_is); (case saH => k_extra "atoms"); (case sad => decide); (case sas => exact rfl); (case sap => exact rfl); (case sak => exact rfl); k_whole))
  k_with "eqNo" =>
    first | exact EqC.int_no (by decide) | exact EqC.str_no (by with_reducible assumption) | exact EqC.str_no (by decide +kernel) | exact EqC.int_no (by omega)
  k_with "eqYes" =>
    first | exact EqC.int_yes rfl | exact EqC.str_yes (by with_reducible assumption) | exact EqC.str_yes (by decide +kernel) | exact EqC.int_yes (by omega)
  k_with "exec If" =>
    ((with_reducible show wpAny _ _ (exec (Stmt.If (Expr.Compare (Expr.Name _ _) [CmpOp.Eq] [Expr.Constant _ _ _] _) _ _ _) _) _ _ _); k_dflt (first
      | (refine' if_no ?siF ?sie ?siv ?sin ?_ ?six ?sid ?sik; (case siF => k_asm); (case sie => exact rfl); (case siv => exact rfl); (case sin => k_extra "eqNo"); (case six => exact rfl); (case sid => decide); (case sik => exact rfl); k_whole)
      | (refine' if_yes ?siF ?sie ?siv ?sin ?_ ?six ?sid ?sik; (case siF => k_asm); (case sie => exact rfl); (case siv => exact rfl); (case sin => k_extra "eqYes"); (case six => exact rfl); (case sid => decide); (case sik => exact rfl); k_whole)))
  k_with "kat_tups" =>
    first | with_reducible_and_instances exact List.Mem.head _ | (refine List.Mem.tail _ ?_; kat_tups) | (refine List.mem_append.mpr (Or.inl ?_); kat_tups) | (refine List.mem_append.mpr (Or.inr ?_); kat_tups) | with_reducible assumption | with_reducible_and_instances exact hq | ((with_reducible show List.Mem _ _); with_reducible_and_instances assumption)
  k_with "top_args" =>
    first | exact List.forall_mem_nil _ | (refine List.forall_mem_cons.mpr (And.intro ?_ ?_); kat_tups; top_args) | (refine List.forall_mem_append.mpr (And.intro ?_ ?_); top_args; top_args) | (intro q hq; kat_tups)
  k_with "mem_news" =>
    first | ((with_reducible_and_instances (repeat (first | exact List.Mem.head _ | refine List.Mem.tail _ ?_))); done) | ((with_reducible show _ ∈ _); kat_tups) | ((try dsimp only [penL, booksL, mled, List.cons_append, List.nil_append]); top_args)
  k_with "ltD" =>
    first | with_reducible assumption | exact lt_l1 (by with_reducible assumption) (by kat_tups) | omega
  k_with "k_ne" =>
    (refine neN ?_; (try dsimp only); first | with_reducible assumption | with_reducible exact Ne.symm (by with_reducible assumption) | with_reducible exact Nat.ne_of_lt (by with_reducible assumption) | with_reducible exact Nat.ne_of_gt (by with_reducible assumption) | exact ne_l1 (by with_reducible assumption) (by kat_tups) | exact Ne.symm (ne_l1 (by with_reducible assumption) (by kat_tups)) | exact ne_l1s (by with_reducible assumption) (by kat_tups) | exact Ne.symm (ne_l1s (by with_reducible assumption) (by kat_tups)) | exact ne_lt2 (by with_reducible assumption) (by with_reducible assumption) (by kat_tups) | exact Ne.symm (ne_lt2 (by with_reducible assumption) (by with_reducible assumption) (by kat_tups)) | exact Anew.ne (by with_reducible assumption) (by kat_tups) | exact Ne.symm (Anew.ne (by with_reducible assumption) (by kat_tups)) | omega)
  k_with "k_all" =>
    first | exact List.forall_mem_nil _ | with_reducible assumption | exact tail_l1 (by with_reducible assumption) (by intro q hq; kat_tups) | (refine' List.forall_mem_cons.mpr ⟨?kaa, ?kab⟩; (case kaa => k_ne); (case kab => k_all))
  k_with "k_allIn" =>
    first | exact True.intro | with_reducible assumption | ((with_reducible refine AllNe.app ?_ ?_) <;> k_allIn) | (refine And.intro ?kah ?_; (case kah => k_memK); k_allIn)
  k_with "useC" =>
    (
      (case F => k_asm)
      (case N => k_asm)
      (case A => exact rfl)
      (case L => exact rfl)
      (case K => intro h9; cases h9)
      (case d => ktr_room)
      (case u => ktr_units)
      (case P => tb_start)
      (case ne => k_allIn))
  k_with "dipC" =>
    (
      (case ta => with_reducible assumption)
      (case tb => assumption)
      (case tc => assumption)
      k_extra "useC"
      (case tg => first | with_reducible assumption | omega)
      (case th => first | exact PB.lt6 (by with_reducible assumption) (by with_reducible assumption) (by decide) | exact PB.lt (by with_reducible assumption) (by with_reducible assumption) (by decide) | omega)
      (case ti => first | with_reducible assumption | omega))
  k_with "pbStep" =>
    (have hPB := PB.step (by with_reducible assumption) hp1)
  k_with "k_inst" =>
    exact InstAt_Fr (by k_asm) (by with_reducible assumption)
  k_with "compareOp In str ref" =>
    (k_dflt (refine' in_list_strs ?lsl ?lsi ?_; (case lsl => exact IsList_Fr (by k_asm) (by with_reducible assumption)); (case lsi => with_reducible assumption)))
  k_with "compareOp NotIn str ref" =>
    (k_dflt (refine' notin_list_strs ?lsl ?lsi ?_; (case lsl => exact IsList_Fr (by k_asm) (by with_reducible assumption)); (case lsi => with_reducible assumption)))
  k_with "exec For Name Attribute cons nil" =>
    (k_dflt (refine' For_own ?_ ?s; (case s => intro _; rfl)))
  k_with "exec For Name Name cons nil" =>
    (k_dflt (refine' For_own ?_ ?s; (case s => intro _; rfl)))
  k_with "geOut" =>
    (
      refine geEnd (by k_asm) fun h' e t₀ dd tk' kp he0 he => ?_
      refine raise_out gk' (fun p hp => (fp p hp).1) B' (by k_asm) ?_ kp he0 he rfl fun h2 fl => ?_
      boot_fact)
  k_with "subscriptTail" =>
    ((with_reducible show wpAny _ _ (subscriptTail _ _ (Value.ref _) (Value.int 0 _)) _ _ _); k_dflt (refine' item_base0 ?ibl ?ibx ?_; (case ibl => exact IsList_Fr (by k_asm) (by with_reducible assumption)); (case ibx => with_reducible assumption)))
  k_with "exec Assign cons ListComp" =>
    (k_dflt (refine LCg.Assign_ListComp_U (F₀ := by k_asm) (by rfl) (by with_unfolding_all rfl) (by with_unfolding_all rfl) (by decide) (by rfl) (by decide) (by rfl) (by rfl) (by rfl) ?_))
  k_with "eval ListComp" =>
    (k_dflt (refine LCg.ListComp_U (F₀ := by k_asm) (by with_unfolding_all rfl) (by decide) (by rfl) (by decide) (by rfl) ?_))
  k_with "CompSrc" =>
    refine hold_ ?_
  k_with "k_handed" =>
    with_reducible assumption
  k_with "eval Tuple" =>
    (k_fold; walk_at "eval Tuple")
  k_with "eval List" =>
    (k_fold; walk_at "eval List")
  k_with "eval BinOp" =>
    (k_fold; walk_at "eval BinOp")
  k_with "eval Call" =>
    (k_fold; walk_at "eval Call")
  k_with "eval Subscript" =>
    (k_fold; walk_at "eval Subscript")
  k_with "execs cons" =>
    (k_fold; walk_at "execs cons")
  k_with "exec If" =>
    (k_fold; walk_at "exec If")
  k_with "exec Assign" =>
    (k_fold; walk_at "exec Assign")
  k_with "exec Return some" =>
    (k_fold; walk_at "exec Return some")
  k_with "exec Expr" =>
    (k_fold; walk_at "exec Expr")
  k_with "ltSkip" => skip
  trivial
theorem InstAt_Fr {g h : Heap} {L x C : Addr} {ox : Obj} {od : Option Obj} {m : Str → Option Value} (F : Fr g L h m) (I : InstAt g x ox C od) : InstAt h x ox C od := by
  obtain ⟨a, b, c, d⟩ := I
  refine ⟨F.keep _ _ a, b, c, ?_⟩
  revert d
  cases ox.dict with
  | none => cases od with
    | none => exact fun _ => True.intro
    | some o => exact fun f => f
  | some dx => cases od with
    | none => exact fun f => f
    | some o => exact fun e => F.keep _ _ e
/-- a maker that lies in a heap and is but read -/
structure MB (w : World) (m : MA) (S : MS) (lct mct : Tok) (st ex : Value) (ts : List Value) (lo : Obj) (ds ls : List Value) (kvs : List (Str × Value)) (h : Heap) : Prop where
  ix : InstAt h m.x (instObj 335 m.d) 335 (some (dictOf (attrs w m S.lc lct S.mc mct st ex) 8))
  it : h.IsList m.t ts.toArray
  id : h.IsList m.dr ds.toArray
  il : h.IsList m.lf ls.toArray
  iv : h.get? m.lv = some lo
  vd : lo.IsDictOf (_root_.PySem.strKind prg w) kvs
  vs : (m.lv == sysModules) = false
  sT : StrsAre ts S.ts
  sL : StrsAre ls S.ls
  oS : OptS st S.st
  oE : OptI ex S.ex
  lv : LvsOn (inh h) kvs S.lv
  dS : All2 (DraftOn w (inh h)) ds S.ds
theorem IsList_mono {g h : Heap} {l : Addr} {vs : Array Value} (k : ∀ b o, h.get? b = some o → g.get? b = some o) (x : h.IsList l vs) : g.IsList l vs := x.at fun o e => k _ o e
theorem MB.mono {w : World} {m : MA} {S : MS} {lct mct : Tok} {st ex : Value} {ts : List Value} {lo : Obj} {ds ls : List Value} {kvs : List (Str × Value)} {g h : Heap} (M : MB w m S lct mct st ex ts lo ds ls kvs h) (k : ∀ b o, h.get? b = some o → g.get? b = some o) : MB w m S lct mct st ex ts lo ds ls kvs g := by
  obtain ⟨⟨a1, a2, a3, a4⟩, it, id, il, iv, vd, vs, sT, sL, oS, oE, lv, dS⟩ := M
  exact ⟨⟨k _ _ a1, a2, a3, k _ _ a4⟩, IsList_mono k it, IsList_mono k id, IsList_mono k il, k _ _ iv, vd, vs, sT, sL, oS, oE, lv.mono fun a o e => k a o e, dS.mono fun _ _ => DraftOn.mono fun a o e => k a o e⟩
noncomputable def isTok (ss : List Str) (x : Str) : Bool := (ss.any fun y => y == x) || (x == Str.ofString "error") || lit x
theorem item_base0 {A : Around} {E : Value → Shared → Prop} {s : Shared} {prog : Program} {w : World} {l : Addr} {vs : List Value} {value slice : PySem.Expr} {u : Tok} {v : Value} {Q : Value → Shared → Prop} (hl : s.heap.IsList l vs.toArray) (hx : vs[0]? = some v) (h : Q v s)
    (hs : subscripted slice false (.ref l) (.int 0 u) = operate [.ref l, .int 0 u] (getItem (.ref l) (.int 0 u)) := by with_unfolding_all rfl) :
    wpAny (model prog w) A (subscriptTail value slice (.ref l) (.int 0 u)) Q E s :=
  tail_any hl.typeIs slot_list_getitem.lookup (wpAny_getItem_list hl (by decide) (by decide) (x := v) (by simpa using hx) h) hs
theorem fp_nil {base h : Heap} : FP base h [] := fun _ hp => nomatch hp
section
variable {w : World} {loose : List Str} {mean : ExcName → Option Value} {mg mb : Str → Option Value} {base : Heap}
variable {h : Heap} {m : MA} {S : MS} {lct mct : Tok} {st ex : Value} {ts : List Value} {lo : Obj} {ds ls : List Value} {kvs : List (Str × Value)}
theorem is_token {x : Str} {t : Tok} (M : MB w m S lct mct st ex ts lo ds ls kvs h) (hx : x.length < 1000) :
    Spec w loose mean mg mb base 313 [.ref m.x, .str x t] 3 h [] (fun v n => v = .bool (isTok S.ts x) ∧ n = []) False := by
  have fp := fp_nil (base := base) (h := h)
  ktr_enter
  have M' := M.mono (g := g') fun b o e => gk' b o e (fun z => nomatch z)
  have hI := M'.ix
  have hT := M'.it
  have sT := M.sT
  k_steps
  all_goals (try dsimp only)
  all_goals exact leaveC (by k_asm) (by k_asm) fun kp nw => ret _ _ _ _ kp nw ⟨congrArg Value.bool (by simp [isTok, *]), rfl⟩
/-- the start of a maker's grammar -/
noncomputable def startOf (S : MS) : Option Str :=
  if S.ds.length = 0 then none else if S.ls.any (isTok S.ts) = true then none else match S.st with
  | none => S.ls.head?
  | some y => if (S.ls.any fun z => z == y) = true then some y else none
/-- what the readers want of a maker's sizes -/
structure MSm (S : MS) : Prop where
  ls : ∀ y ∈ S.ls, y.length < 1000
  st : ∀ y, S.st = some y → y.length < 1000
  zl : S.ls.length < 1000
  zd : S.ds.length < 1000
  zt : S.ts.length < 1000
  ne : S.ds ≠ [] → S.ls ≠ []
theorem start_none0 (h : (S.ds.length : Int) = 0) : startOf S = none := by
  unfold startOf; rw [if_pos (by omega)]
theorem start_noneT {i : Nat} {y : Str} (hi : S.ls[i]? = some y) (h : isTok S.ts y = true) : startOf S = none := by
  unfold startOf
  split
  · rfl
  · rw [if_pos (List.any_eq_true.mpr ⟨y, List.mem_of_getElem? hi, h⟩)]
theorem any_no {α : Type} {l : List α} {p : α → Bool} (h : ∀ j y, j < l.length → l[j]? = some y → p y = false) : l.any p = false := by
  rw [List.any_eq_false]
  intro y hy
  obtain ⟨j, hj⟩ := List.getElem?_of_mem hy
  rw [h j y (List.getElem?_eq_some_iff.mp hj).1 hj]; exact Bool.false_ne_true
theorem start_noneS {y : Str} (hst : S.st = some y) (h : (S.ls.any fun z => z == y) = false) : startOf S = none := by
  unfold startOf
  split
  · rfl
  · split
    · rfl
    · rw [hst]; dsimp only; rw [h]; rfl
theorem start_someS {y : Str} (h0 : S.ds.length ≠ 0) (hp : ∀ j y, j < S.ls.length → S.ls[j]? = some y → isTok S.ts y = false) (hst : S.st = some y) (h : (S.ls.any fun z => z == y) = true) : startOf S = some y := by
  unfold startOf
  rw [if_neg h0, any_no hp, hst]; dsimp only; rw [h]; rfl
theorem start_some0 {y : Str} (h0 : S.ds.length ≠ 0) (hp : ∀ j y, j < S.ls.length → S.ls[j]? = some y → isTok S.ts y = false) (hst : S.st = none) (h : S.ls.head? = some y) : startOf S = some y := by
  unfold startOf
  rw [if_neg h0, any_no hp, hst]; exact h
theorem words_B30b : True := by
  k_with "call ref" => (k_dflt (
    (with_reducible show wpAny _ _ (call (Value.ref 313) _) _ _ _)
    (refine' use0 (is_token ?tkM ?tkx) X T B' ?F ?N ?A ?L ?K ?d ?u ?_ ?e)
    (case tkM => exact MB.mono M' (Fr.keep (by k_asm)))
    (case tkx => first | with_reducible assumption | omega)
    ktr_rel))
  trivial
theorem start_name (M : MB w m S lct mct st ex ts lo ds ls kvs h) (Z : MSm S) :
    Spec w loose mean mg mb base 320 [.ref m.x] 8 h [] (fun v n => (∃ y t, v = .str y t ∧ startOf S = some y) ∧ n = []) (startOf S = none) := by
  have fp := fp_nil (base := base) (h := h)
  ktr_enter
  have M' := M.mono (g := g') fun b o e => gk' b o e (fun z => nomatch z)
  have hI := M'.ix
  have hT := M'.it
  have hL := M'.il
  have hDl := M'.id
  have sT := M.sT
  have sL := M.sL
  have q1 := sL.length
  have q2 := M.dS.len
  have q3 := Z.zl
  have q4 := Z.zd
  k_steps
  · k_extra "geOut"
    exact err (start_none0 (by omega)) e h2 tk' fl
  refine loopB (fun i mm nx => nx = [] ∧ (∀ j y, j < i → S.ls[j]? = some y → isTok S.ts y = false) ∧ ∃ a0, mm = fun y => if y = Str.ofString "name" then a0 else List.lookup y [(Str.ofString "self", Value.ref m.x)]) (by exact rfl) hL (by passes_own) (.inl fun _ _ => rfl) (by k_asm) (by k_asm) ⟨rfl, fun j _ hj => absurd hj (Nat.not_lt_zero _), _, mapE1 fun _ _ => rfl⟩ ?turn ?done
  case turn =>
    intro i v m1 nx h5 tk5 I oI hvi hJ hnx F5 N5
    refine hideT fun Qt hQt => ?_
    obtain ⟨rfl, hpre, a0, rfl⟩ := hJ
    obtain ⟨x5, t5, rfl, hni⟩ := strs_at sL hvi
    have hl5 := Z.ls x5 (List.mem_of_getElem? hni)
    k_steps
    · k_extra "geOut"
      exact err (start_noneT hni (by assumption)) e h2 tk' fl
    · refine hQt _ _ ?_
      show TEnd _ _ _ _ _ _ _
      refine tEnd (nx' := []) (by k_asm) ?_ hnx ⟨rfl, fun j y hj e => ?_, _, mapE1 fun y hy => by simp only [if_neg hy]⟩
      · boot_fact
      · rcases Nat.lt_or_ge j i with q | q
        · exact hpre j y q e
        · obtain rfl : j = i := by omega
          rw [hni] at e; cases e; assumption
  case done =>
    intro m1 nx h6 tk6 hJ F6 N6
    obtain ⟨rfl, hpre, a0, rfl⟩ := hJ
    have hst := M.oS
    generalize hso : S.st = so at hst
    cases hst with
    | none =>
      obtain ⟨v0, hv0⟩ : ∃ v, ls[0]? = some v := ⟨ls[0]'(by have := Z.ne (by intro e; rw [e, List.length_nil] at q2; omega); have := List.length_pos_iff.mpr this; omega), List.getElem?_eq_getElem _⟩
      obtain ⟨y0, t0, rfl, hy0⟩ := strs_at sL hv0
      k_steps
      exact leaveC (by k_asm) (by k_asm) fun kp nw => ret _ _ _ _ kp nw ⟨⟨y0, t0, rfl, start_some0 (by omega) (fun j y q e => hpre j y (by omega) e) hso (by rw [List.head?_eq_getElem?]; exact hy0)⟩, rfl⟩
    | some y t =>
      have hyl := Z.st y hso
      k_steps
      · try dsimp only
        exact leaveC (by k_asm) (by k_asm) fun kp nw => ret _ _ _ _ kp nw ⟨⟨y, t, rfl, start_someS (by omega) (fun j y q e => hpre j y (by omega) e) hso (by assumption)⟩, rfl⟩
      · k_extra "geOut"
        exact err (start_noneS hso (by assumption)) e h2 tk' fl
end
theorem words_B31 : True := by
  trivial
section
variable {prog : Program} {w : World} {A : Around} {E : Value → Shared → Prop} {env : Env} {h₀ : Heap} {target : PySem.Expr} {body : List Stmt} {Q : Flow → Shared → Prop}
/-- a loop over a tuple that the base holds -/
theorem loopT {s : Shared} {l : Addr} {vs : List Value} {m₀ : Str → Option Value} {nx₀ : List (Addr × Obj)} (J : Nat → (Str → Option Value) → List (Addr × Obj) → Prop)
    (hh : A.handled = none) (hl : h₀.IsTuple l vs.toArray) (hE : PassesOwn (model prog w) A env E) (ht : ∀ v I, letOwnedTupleGo target (.ref I) v = pure ())
    (F : Fr h₀ env.locals s.heap m₀) (N : News h₀ env.locals s.heap nx₀) (hj : J 0 m₀ nx₀)
    (turn : ∀ i v m₁ nx h tk I oI, vs[i]? = some v → J i m₁ nx → (∀ q ∈ nx, q.1 ≠ I) → Fr h₀ env.locals h m₁ → News h₀ env.locals h ((I, oI) :: nx) →
      wpAny (model prog w) A (assign target env v) (fun _ s₂ => wpAny (model prog w) A (PySem.execs body env) (TPost h₀ env.locals (J (i + 1)) I oI { s with heap := h, toks := tk } Q) E s₂) E { s with heap := h, toks := tk })
    (done : ∀ m₁ nx h tk, J vs.length m₁ nx → Fr h₀ env.locals h m₁ → News h₀ env.locals h nx → Q .next { s with heap := h, toks := tk }) :
    IterAt prog w A env target body Q E (.ref l) s := by
  have hls : s.heap.IsTuple l vs.toArray := hl.at fun o e => F.keep l o e
  obtain ⟨ol, hol, hol2⟩ := id hl
  have hne : l ≠ s.heap.objs.size := Nat.ne_of_lt (Nat.lt_trans (Nat.lt_of_lt_of_le (Heap.lt_size hol) F.above) F.ns.lt)
  refine wpAny_pyIter_tuple hls ?_
  have W := Walks.tuple (prog := prog) (w := w) hh s.heap.objs.size l hne vs.toArray
  have hI0 : h₀.get? s.heap.objs.size = none := none_at_size F
  refine loopW (s := { s with heap := s.heap.push { cls := .type "tuple_iterator", data := .fields #[.ref l, .int 0 0] } }) (oI₀ := { cls := .type "tuple_iterator", data := .fields #[.ref l, .int 0 0] }) J W hE (fun i v s Q E st hQ => go_of (ht := ht) hQ) (fun i h st => ?_) (F.push _) (fun p hp => ?_) (fun q hq e => ?_) ⟨⟨_, Heap.get?_push_size _ rfl, rfl, rfl⟩, hls.at fun o e => Heap.get?_push_of_some _ e⟩ hj (fun b hb hbI => ?_)
    (fun i v m₁ nx h tk oI hi hP hJ hn F1 N1 => turn i v m₁ nx h tk _ oI (by simpa using hP) hJ hn F1 N1) (fun m₁ nx h tk hJ F1 N1 => done m₁ nx h tk (by simpa using hJ) F1 N1)
  · obtain ⟨o, ho, _⟩ := st.1; exact ⟨o, ho⟩
  · rcases List.mem_cons.mp hp with rfl | hp
    · exact ⟨Heap.get?_push_size _ rfl, Nat.ne_of_gt F.ns.lt, hI0⟩
    · exact ⟨Heap.get?_push_of_some _ (N p hp).1, (N p hp).2⟩
  · exact absurd (Heap.lt_size (N q hq).1) (e ▸ Nat.lt_irrefl _)
  · rcases List.mem_cons.mp hb with rfl | hb
    · exact absurd rfl hbI
    · rw [List.mem_singleton.mp hb]; exact .inl ⟨ol, hol⟩
end
noncomputable def lastTerm (tc : Int) (ns : List Int) : Int := ns.foldl (fun f s => if s < tc then s else f) (-1)
theorem last_more {tc : Int} {ns : List Int} {i : Nat} {x : Int} (h : ns[i]? = some x) : lastTerm tc (ns.take (i + 1)) = if x < tc then x else lastTerm tc (ns.take i) := by
  rw [take_more h, lastTerm, List.foldl_append]; rfl
/-- the numbers' table -/
noncomputable def NumsOn (kvs : List (Str × Value)) (nm : List (Str × Int)) : Prop := All2 (fun kv q => kv.1 = q.1 ∧ ∃ t, kv.2 = .int q.2 t) kvs nm
noncomputable def numGet (nm : List (Str × Int)) (y : Str) : Option Int := (nm.find? fun q => q.1 = y).map (·.2)
theorem nums_at {kvs : List (Str × Value)} {nm : List (Str × Int)} (h : NumsOn kvs nm) (y : Str) : (numGet nm y = none ∧ valueAt kvs y = none) ∨ ∃ k t, numGet nm y = some k ∧ valueAt kvs y = some (.int k t) := by
  induction h with
  | nil => exact .inl ⟨rfl, rfl⟩
  | cons r _ ih =>
    obtain ⟨e, t, e2⟩ := r
    rename_i kv q kvs nm _
    by_cases hy : q.1 = y
    · refine .inr ⟨q.2, t, ?_, ?_⟩
      · simp [numGet, List.find?_cons, hy]
      · simp [valueAt, List.find?_cons, e, hy, e2]
    · simp only [numGet, valueAt, List.find?_cons, e, hy, decide_false] at ih ⊢
      exact ih
noncomputable def levelOf (D : DraftD) (ns : List Int) (nm : List (Str × Int)) (tc : Int) : Option Int := match D.prec with
  | none => some (lastTerm tc ns)
  | some y => match numGet nm y with
    | none => none
    | some k => if k < 0 ∨ k ≥ tc then none else some k
theorem DictOf_Fr {prog : Program} {w : World} {K : Type} [DecidableEq K] {knd : KeyKind prog w K} {g h : Heap} {L d : Addr} {m : Str → Option Value} {kvs : List (K × Value)} (F : Fr g L h m) (D : g.DictOf knd d kvs) : h.DictOf knd d kvs := by
  obtain ⟨o, ho, hd⟩ := Heap.dictOf_iff.mp D
  exact Heap.dictOf_iff.mpr ⟨o, F.keep _ _ ho, hd⟩
section
variable {prog : Program} {w : World} {A : Around} {E : Value → Shared → Prop} {s : Shared} {d : Addr} {kvs : List (Str × Value)} {x : Str} {t : Tok} {dflt : Value}
theorem dget_method {pl : Sem Bool} {Q : Value × List Value → Shared → Prop} (hD : s.heap.DictOf (_root_.PySem.strKind prog w) d kvs) (h : Q (.builtin "dict.get", [.ref d]) s) : wpAny (model prog w) A (getMethod (.ref d) "get" pl) Q E s :=
  getMethod_builtin hD.typeIs PySem.F.plainAttrs_dict PySem.F.slot_dict_get PySem.F.type_dict_get hD.mapOf.noDict h
theorem dget2 {Q : Value → Shared → Prop} {o : Option Value} (hD : s.heap.DictOf (_root_.PySem.strKind prog w) d kvs) (lo : (d == sysModules) = false) (hl : valueAt kvs x = o) (h : Q (o.getD dflt) { s with toks := s.toks + 1 }) :
    wpAny (model prog w) A (call (.builtin "dict.get") [.ref d, .str x t, dflt]) Q E s :=
  call_meetsIn PySem.F.slot_dict_get hD.typeIs PySem.F.entry_dict_get (PySem.F.args_dict_get_3 _ _ _) (meets_dict_get_default (_root_.PySem.strKind prog w) d isStr lo dflt) ⟨_, hD.mapOf, by rw [hl]; exact h⟩
end
section
variable {w : World} {loose : List Str} {mean : ExcName → Option Value} {mg mb : Str → Option Value} {base : Heap}
variable {h : Heap} {m : MA} {S : MS} {lct mct : Tok} {st ex : Value} {ts : List Value} {lo : Obj} {ds ls : List Value} {kvs : List (Str × Value)}
theorem last_terminal {r : Addr} {vs : List Value} {ns : List Int} {tc : Int} {t : Tok} (hr : h.IsTuple r vs.toArray) (hi : IntsAre vs ns) :
    Spec w loose mean mg mb base 185 [.ref r, .int tc t] 2 h [] (fun v n => (∃ t', v = .int (lastTerm tc ns) t') ∧ n = []) False := by
  have fp := fp_nil (base := base) (h := h)
  ktr_enter
  have hr' : g'.IsTuple r vs.toArray := hr.at fun o e => gk' _ o e (fun z => nomatch z)
  k_steps
  refine loopT (fun i mm nx => nx = [] ∧ ∃ a0 u, mm = fun y => if y = Str.ofString "symbol" then a0 else if y = Str.ofString "found" then some (.int (lastTerm tc (ns.take i)) u) else List.lookup y [(Str.ofString "terminal_count", Value.int tc t), (Str.ofString "right", Value.ref r)]) (by exact rfl) hr' (by passes_own) (fun _ _ => rfl) (by k_asm) (by k_asm) ?init ?turn ?done
  case init => exact ⟨rfl, _, _, mapE1 fun y hy => rfl⟩
  case turn =>
    intro i v m1 nx h5 tk5 I oI hvi hJ hnx F5 N5
    refine hideT fun Qt hQt => ?_
    obtain ⟨rfl, a0, u, rfl⟩ := hJ
    obtain ⟨k, u2, rfl, hni⟩ := IntsAre.at hi i v hvi
    k_steps
    · have e1 : lastTerm tc (ns.take (i + 1)) = k := by rw [last_more hni, if_pos (by assumption)]
      refine hQt _ _ ?_
      show TEnd _ _ _ _ _ _ _
      refine tEnd (nx' := []) (by k_asm) ?_ hnx ⟨rfl, _, u2, mapE1 fun y hy => ?_⟩
      · boot_fact
      · by_cases hf : y = Str.ofString "found"
        · simp only [if_neg hy, if_pos hf, e1]
        · simp only [if_neg hy, if_neg hf]
    · have e1 : lastTerm tc (ns.take (i + 1)) = lastTerm tc (ns.take i) := by rw [last_more hni, if_neg (by assumption)]
      refine hQt _ _ ?_
      show TEnd _ _ _ _ _ _ _
      refine tEnd (nx' := []) (by k_asm) ?_ hnx ⟨rfl, _, u, mapE1 fun y hy => ?_⟩
      · boot_fact
      · simp only [if_neg hy, e1]
  case done =>
    intro m1 nx h6 tk6 hJ F6 N6
    obtain ⟨rfl, a0, u, rfl⟩ := hJ
    k_steps
    have eL : ns.take vs.length = ns := by rw [hi.length, List.take_length]
    rw [eL]
    exact leaveC (by k_asm) (by k_asm) fun kp nw => ret _ _ _ _ kp nw ⟨⟨_, rfl⟩, rfl⟩
theorem DraftOn.inst {w : World} {h : Heap} {v : Value} {D : DraftD} (H : DraftOn w (inh h) v D) : ∃ x d l k1 k2 k3 k4 k5 k6 lt pv av nt bt rs, v = .ref x ∧ InstAt h x (instObj 224 d) 224 (some (dictOf (dattrs w k1 k2 k3 k4 k5 k6 (.str D.left lt) (.ref l) pv av (.int D.line nt) (.int D.before bt)) 6)) ∧ h.IsList l (rs : List Value).toArray ∧ StrsAre rs D.right ∧ OptS pv D.prec ∧ OptS av D.action := by
  obtain ⟨x, d, l, k1, k2, k3, k4, k5, k6, lt, pv, av, nt, bt, rs, e, q, a, b, c, r1, r2, r3⟩ := H
  exact ⟨x, d, l, k1, k2, k3, k4, k5, k6, lt, pv, av, nt, bt, rs, q, ⟨a, rfl, rfl, b⟩, ⟨_, c, rfl, _, rfl⟩, r1, r2, r3⟩
theorem DraftOn.instK {w : World} {h : Heap} {v : Value} {D : DraftD} (H : DraftOn w (inh h) v D) {P : Prop} (k : ∀ x d l k1 k2 k3 k4 k5 k6 lt pv av nt bt rs, v = .ref x → InstAt h x (instObj 224 d) 224 (some (dictOf (dattrs w k1 k2 k3 k4 k5 k6 (.str D.left lt) (.ref l) pv av (.int D.line nt) (.int D.before bt)) 6)) → h.IsList l (rs : List Value).toArray → StrsAre rs D.right → OptS pv D.prec → OptS av D.action → P) : P := by
  obtain ⟨x, d, l, k1, k2, k3, k4, k5, k6, lt, pv, av, nt, bt, rs, a, b, c, r1, r2, r3⟩ := H.inst
  exact k x d l k1 k2 k3 k4 k5 k6 lt pv av nt bt rs a b c r1 r2 r3
theorem words_B31b : True := by
  k_with "call ref" => (k_dflt (
    (with_reducible show wpAny _ _ (call (Value.ref 185) _) _ _ _)
    (refine' useP (fun _ => last_terminal ?ltr ?lti) X T B' ?F ?N ?A ?L ?K ?d ?u ?P ?ne ?_ ?e)
    (case ltr => exact IsTup_Fr (by k_asm) (by with_reducible assumption))
    (case lti => with_reducible assumption)
    (case F => k_asm)
    (case N => k_asm)
    (case A => exact rfl)
    (case L => exact rfl)
    (case K => intro h9; cases h9)
    (case d => ktr_room)
    (case u => ktr_units)
    (case P => exact Pick.nil)
    (case ne => exact allNe_nil _)
    (case e => intro h9; cases h9)
    intro v' h' tk' news' F' N' hf' kp' po'
    obtain ⟨⟨t', rfl⟩, rfl⟩ := po'
    simp only [List.nil_append] at N'
    (try k_sweep)))
  k_with "getMethod ref" => ((with_reducible show wpAny _ _ (getMethod (Value.ref _) (PySem.Str.ofString "get") _) _ _ _); k_dflt (refine' dget_method ?dgm ?_; (case dgm => exact DictOf_Fr (by k_asm) (by with_reducible assumption))))
  k_with "call builtin:dict.get" => (k_dflt (refine' dget2 ?dgm ?dgl ?dgv ?_; (case dgm => exact DictOf_Fr (by k_asm) (by with_reducible assumption)); (case dgl => with_reducible assumption); (case dgv => with_reducible assumption)); dsimp only [Option.getD])
  trivial
theorem level_some0 {D : DraftD} {ns : List Int} {nm : List (Str × Int)} {tc : Int} (h : D.prec = none) : levelOf D ns nm tc = some (lastTerm tc ns) := by rw [levelOf, h]
theorem level_nog {D : DraftD} {ns : List Int} {nm : List (Str × Int)} {tc : Int} {y : Str} (h : D.prec = some y) (g : numGet nm y = none) : levelOf D ns nm tc = none := by rw [levelOf, h]; dsimp only; rw [g]
theorem level_no {D : DraftD} {ns : List Int} {nm : List (Str × Int)} {tc k : Int} {y : Str} (h : D.prec = some y) (g : numGet nm y = some k) (c : k < 0 ∨ k ≥ tc) : levelOf D ns nm tc = none := by rw [levelOf, h]; dsimp only; rw [g]; dsimp only; rw [if_pos c]
theorem level_yes {D : DraftD} {ns : List Int} {nm : List (Str × Int)} {tc k : Int} {y : Str} (h : D.prec = some y) (g : numGet nm y = some k) (c : ¬ (k < 0 ∨ k ≥ tc)) : levelOf D ns nm tc = some k := by rw [levelOf, h]; dsimp only; rw [g]; dsimp only; rw [if_neg c]
theorem allNe_nil : ∀ l : List (Addr × Obj), AllNe [] l
  | [] => True.intro
  | _ :: l => ⟨fun _ hx => (nomatch hx), allNe_nil l⟩
theorem level_of {dv : Value} {D : DraftD} {r nd : Addr} {vs : List Value} {ns : List Int} {nkvs : List (Str × Value)} {nm : List (Str × Int)} {tc : Int} {t : Tok} (hD : DraftOn w (inh h) dv D) (hpr : ∀ y, D.prec = some y → y.length < 1000) (hr : h.IsTuple r vs.toArray) (hi : IntsAre vs ns) (hn : h.DictOf (_root_.PySem.strKind prg w) nd nkvs) (hnm : NumsOn nkvs nm) (hsy : (nd == sysModules) = false) :
    Spec w loose mean mg mb base 327 [.ref m.x, dv, .ref r, .ref nd, .int tc t] 8 h [] (fun v n => (∃ k t', v = .int k t' ∧ levelOf D ns nm tc = some k) ∧ n = []) (levelOf D ns nm tc = none) := by
  have fp := fp_nil (base := base) (h := h)
  ktr_enter
  have hr' : g'.IsTuple r vs.toArray := hr.at fun o e => gk' _ o e (fun z => nomatch z)
  have hn' : g'.DictOf (_root_.PySem.strKind prg w) nd nkvs := by
    obtain ⟨o, ho, hd⟩ := Heap.dictOf_iff.mp hn
    exact Heap.dictOf_iff.mpr ⟨o, gk' _ _ ho (fun z => nomatch z), hd⟩
  refine (hD.mono fun a o e => gk' a o e (fun z => nomatch z) : DraftOn w (inh g') dv D).instK ?_
  clear hD
  intro x d l k1 k2 k3 k4 k5 k6 lt pv av nt bt rs hdv hID hl' hrs hpv hav
  subst hdv
  generalize hso : D.prec = so at hpv
  cases hpv with
  | none =>
    k_steps
    exact leaveC (by k_asm) (by k_asm) fun kp nw => ret _ _ _ _ kp nw ⟨⟨_, _, rfl, level_some0 hso⟩, rfl⟩
  | some y ty =>
    have hyl := hpr y hso
    rcases nums_at hnm y with ⟨hg, hv⟩ | ⟨k, u, hg, hv⟩
    · k_steps
      k_extra "geOut"
      exact err (level_nog hso hg) e h2 tk' fl
    · k_steps
      · k_extra "geOut"
        exact err (level_no hso hg (by omega)) e h2 tk' fl
      · k_extra "geOut"
        exact err (level_no hso hg (by omega)) e h2 tk' fl
      · try dsimp only
        exact leaveC (by k_asm) (by k_asm) fun kp nw => ret _ _ _ _ kp nw ⟨⟨_, _, rfl, level_yes hso hg (by omega)⟩, rfl⟩
end
theorem words_B33 : True := by
  k_with_none
  k_with "ktr_room" =>
    ((try simp only [depth_under_make, depth_under_kw, depth_in1, depth_deeper]); (try dsimp only [Ar]); omega)
  k_with "ktr_units" =>
    ((try simp only [units_in1, units_deeper, Around.mark_units]); (try dsimp only [Ar]); omega)
  k_with "ktr_enter" =>
    (
      intro frs dp un gd s R hs G hap hd hu ret err
      subst hs
      have X := G.X
      have T := G.T
      k_dflt (
        refine' enterP G _ ?k1 hap ?k3 ?k4 ?k5 ?k6 ?k8 ?k7 ?_ ?c2 ?c3 ?c4 ?c5
        (case k3 => k_is)
        (case k4 => k_is)
        (case k1 => assumption)
        (case k5 => omega)
        (case k6 => exact rfl)
        (case k8 => (refine' zr_of ?zra ?zrb; (case zra => (dsimp only [List.map_cons, List.map_nil]; try exact rfl)); (case zrb => first | exact zr1 | exact zr2 | exact zr3 | exact zr4 | exact zr5 | exact zr6 | exact zr7 | exact zr8)))
        (case k7 => exact locs rfl)
        (case c2 => exact rfl)
        (case c3 => exact rfl)
        (case c4 => exact rfl)
        (case c5 => decide)
        k_whole
        intro g' L' h' tk' gk' F' N' B' X' T'
        (try dsimp only [mled] at N')
        (try dsimp only)
        (try k_fold)))
  k_with "ktr_step" =>
    (
      intro frs dp un gd s R hs G hap hd hu ret err
      subst hs
      have X := G.X
      have T := G.T
      have Xs : (frag.heap_1 w.params).In s.heap := X.keeps G.st
      k_dflt (
        refine' enter G _ ?k1 hap ?k3 ?k4 ?k5 ?k6 ?k7 ?_ ?c2 ?c3 ?c4 ?c5
        (case k3 => k_is)
        (case k4 => k_is)
        (case k1 => assumption)
        (case k5 => omega)
        (case k6 => first | exact BindsTo.of_eq rfl | exact binds_K Xs rfl (by k_is) rfl rfl rfl)
        (case k7 => exact locs rfl)
        (case c2 => exact rfl)
        (case c3 => exact rfl)
        (case c4 => exact rfl)
        (case c5 => decide)
        k_whole
        intro g' L' h' gk' F' N' B' X' T'
        (try dsimp only [mled] at N')
        (try dsimp only)
        (try k_fold)))
  k_with "exec Raise some none" =>
    (k_dflt (refine' Raise_ge X T B' ?F X' T' ?d ?u ?a ?b ?c ?_; (case F => k_asm); (case d => ktr_room); (case u => ktr_units); (case a => exact rfl); (case b => exact rfl); (case c => exact rfl)))
  k_with "k_room" =>
    ktr_room
  k_with "call type:range" =>
    (k_dflt (refine' range1_rows ?F ?N ?_; (case F => k_asm); (case N => k_asm); intro h' tk' t1' u1' v1' R' F' N' kp'))
  k_with "exec For" =>
    (k_dflt (refine' For_own ?_ ?s; (case s => intro _; rfl)))
  k_with "ktr_rel" =>
    (
      (case F => k_asm)
      (case N => k_asm)
      (case A => exact rfl)
      (case L => exact rfl)
      (case K => intro h9; cases h9)
      (case d => ktr_room)
      (case u => ktr_units)
      (case e => intro h9; cases h9)
      intro h' tk' F' N'
      (try k_sweep))
  k_with "ktn_open" =>
    first | exact Rm.head | (apply Rm.tail; ktn_open)
  k_with "tb_start" =>
    first | exact Pick.nil | (refine' Pick.cons ?pka ?pkb; (case pka => ktn_open); (case pkb => tb_start))
  k_with "k_memK" =>
    first | exact ne0 | (refine ne1 ?x ?_; (case x => ((try dsimp only); omega)); k_memK)
  k_with "k_allIn" =>
    first | exact True.intro | (refine And.intro ?h ?_; (case h => k_memK); k_allIn)
  k_with "tb_rel" =>
    (
      (case F => k_asm)
      (case N => k_asm)
      (case A => exact rfl)
      (case L => exact rfl)
      (case K => intro h9; cases h9)
      (case d => ktr_room)
      (case u => ktr_units)
      (case e => intro h9; cases h9)
      (case P => tb_start)
      (case ne => k_allIn))
  k_with "compareOp In str ref" =>
    (k_dflt (refine' in_list_strs ?l ?i ?_; (case l => exact isL (by k_asm) (by k_mem)); (case i => assumption)))
  k_with "compareOp NotIn str ref" =>
    (k_dflt (refine' notin_list_strs ?l ?i ?_; (case l => exact isL (by k_asm) (by k_mem)); (case i => assumption)))
  k_with "call builtin:list.append" =>
    (k_dflt (refine' append_L ?k1 ?k2 ?k3 ?z ?_; (case k1 => k_asm); (case k2 => k_asm); (case k3 => k_upd); (case z => first | omega | (simp only [List.length_append, List.length_cons, List.length_nil]; omega)); k_whole); intro h' F' N'; (try k_sweep))
  k_with "call ref" =>
    (k_dflt (
      (first
      | (refine' use0 (is_kept ?a) X T B' ?F ?N ?A ?L ?K ?d ?u ?_ ?e; (case a => assumption))
      | (refine' use0 (is_literal ?a) X T B' ?F ?N ?A ?L ?K ?d ?u ?_ ?e; (case a => assumption))
      | (refine' use0 (check_name ?a ?b) X T B' ?F ?N ?A ?L ?K ?d ?u ?_ ?e; (case a => assumption); (case b => assumption)))
      ktr_rel))
  k_with "boot_fact" =>
    (refine' News.subl ?nwN ?nwS; (case nwN => k_asm); (case nwS => (intro p hp; repeat (first | with_reducible exact hp | with_reducible refine List.mem_cons_of_mem _ ?_))))
  k_with "mem_news" =>
    (with_reducible_and_instances (repeat (first | exact List.Mem.head _ | refine List.Mem.tail _ ?_)))
  k_with "call ref" =>
    (k_dflt (
      (with_reducible show wpAny _ _ (call (Value.ref 207) _) _ _ _)
      (refine' useX (check_name_any ?a) X T B' ?F ?N ?A ?L ?K ?d ?u ?_ ?e)
      (case a => assumption)
      (case F => k_asm)
      (case N => k_asm)
      (case A => exact rfl)
      (case L => exact rfl)
      (case K => intro h9; cases h9)
      (case d => ktr_room)
      (case u => ktr_units)
      (case e => intro hx9 e9 h9 tk9 fl9; refine pass_out gk' (fun p hp => (fp p hp).1) (by k_asm) ?_ fl9 fun h2 f2 => err ?_ _ _ _ f2; boot_fact; nest_cls)
      intro h' tk' F' N' hx'
      (try k_sweep)))
  k_with "kas_types" =>
    exact map4 (a := Str.ofString "text") (b := Str.ofString "kind") (c := Str.ofString "at") (d := Str.ofString "action") rfl rfl rfl rfl (fun y h1 h2 h3 h4 => by simp only [if_neg h1, if_neg h2, if_neg h3, if_neg h4])
  k_with "krn_off" =>
    (
      intro frs dp un gd s R hs G hap hd hu ret err
      subst hs
      have X := G.X
      have T := G.T
      have Xs : (frag.heap_1 w.params).In s.heap := X.keeps G.st
      k_dflt (
        refine' enterPd G _ ?k1 hap ?k3 ?k4 ?k5 ?k6 ?k8 ?k7 ?_ ?c2 ?c3 ?c4 ?c5
        (case k3 => k_is)
        (case k4 => k_is)
        (case k1 => assumption)
        (case k5 => omega)
        (case k6 => exact binds_K Xs rfl (by k_is) rfl rfl rfl)
        (case k8 => (refine' zr_of ?zra ?zrb; (case zra => (dsimp only [List.map_cons, List.map_nil]; try exact rfl)); (case zrb => first | exact zr1 | exact zr2 | exact zr3 | exact zr4 | exact zr5 | exact zr6 | exact zr7 | exact zr8)))
        (case k7 => exact locs rfl)
        (case c2 => exact rfl)
        (case c3 => exact rfl)
        (case c4 => exact rfl)
        (case c5 => decide)
        k_whole
        intro g' L' h' tk' gk' F' N' B' X' T'
        (try dsimp only [mled] at N')
        (try dsimp only)
        (try k_fold)))
  k_with "k_all" =>
    first | exact List.forall_mem_nil _ | with_reducible assumption | exact allLt_ne (by with_reducible assumption) | (refine' List.forall_mem_cons.mpr ⟨?a, ?b⟩; (case a => k_ne); (case b => k_all))
  k_with "k_allIn" =>
    first | exact True.intro | exact hAN | (refine And.intro ?h ?_; (case h => k_memK); k_allIn)
  k_with "call ref" =>
    (k_dflt (
      (with_reducible show wpAny _ _ (call (Value.ref 235) _) _ _ _)
      (refine' useX (check_rule_any ?a ?b ?c ?v ?ps ?po) X T B' ?F ?N ?A ?L ?K ?d ?u ?_ ?e)
      (case a => assumption)
      (case v => assumption)
      (case F => k_asm)
      (case N => k_asm)
      (case A => exact rfl)
      (case L => exact rfl)
      (case K => intro h9; cases h9)
      (case d => ktr_room)
      (case u => ktr_units)
      (case ps => assumption)
      (case po => assumption)
      (case b => exact IsList_Fr (by k_asm) (by assumption))
      (case c => exact PartsOn_Fr (by k_asm) (by assumption))
      (case e => intro hx9 e9 h9 tk9 fl9; first | (rw [hok] at hx9; cases hx9) | (refine pass_out gk' (fun p hp => (fp p hp).1) (by k_asm) ?_ fl9 fun h2 f2 => err ?_ _ _ _ f2; boot_fact; nest_cls))
      intro h' tk' F' N' hx'
      (try k_sweep)))
  k_with "call builtin:len" =>
    ((with_reducible show wpAny _ _ (call (Value.builtin "len") [Value.ref _]) _ _ _); k_dflt (refine' len_L ?l ?z ?_; (case l => first | exact IsList_Fr (by k_asm) (by with_reducible assumption) | exact isL (by k_asm) (by with_reducible k_mem)); (case z => first | omega | (simp only [List.length_append, List.length_cons, List.length_nil]; omega)); k_whole))
  k_with "subscriptTail Name Name ref int" =>
    (k_dflt (refine' item_B ?l ?i ?z ?_; (case l => exact IsList_Fr (by k_asm) (by assumption)); (case i => assumption); (case z => omega); k_whole))
  k_with "exec For Name Call cons nil" =>
    (k_dflt (refine' For_own ?_ ?s; (case s => intro _; rfl)))
  k_with "assign Tuple" =>
    (k_here; (with_reducible show wpAny _ _ (assign (Expr.Tuple _ _ _) _ (Value.ref _)) _ _ _); k_dflt (refine' unpackN_ ?F ?N ?T ?k1 ?k2 ?k3 ?_; (case F => k_asm); (case N => k_asm); (case T => exact IsTup_Fr (by k_asm) (by with_reducible assumption)); (case k1 => exact rfl); (case k2 => exact rfl); (case k3 => exact rfl)); intro h' F' N'; (try k_sweep))
  k_with "k_ne" =>
    (refine neN ?_; (try dsimp only); first | with_reducible exact Nat.ne_of_lt (by with_reducible assumption) | with_reducible exact Nat.ne_of_gt (by with_reducible assumption) | with_reducible assumption | with_reducible exact Ne.symm (by with_reducible assumption) | omega)
  k_with "k_memK" =>
    first | exact ne0 | (refine ne1 ?kmx ?_; (case kmx => k_ne); k_memK)
  k_with "ktr_room" =>
    ((try simp only [depth_under_make, depth_under_kw, depth_in1, depth_deeper]); (try dsimp only [Ar]); first | exact room1 (by with_reducible assumption) (by decide) | exact room2 (by with_reducible assumption) (by decide) | omega)
  k_with "ktr_units" =>
    ((try simp only [units_in1, units_deeper, Around.mark_units]); (try dsimp only [Ar]); first | exact units1 (by with_reducible assumption) (by decide) | exact units2 (by with_reducible assumption) (by decide) | exact units3 (by with_reducible assumption) (by decide) | omega)
  k_with "atoms" =>
    first | exact Atoms.nil | (refine' Atoms.str ?amn; (case amn => k_extra "atoms")) | (refine' Atoms.int ?amn; (case amn => k_extra "atoms")) | (refine' Atoms.none ?amn; (case amn => k_extra "atoms")) | (refine' Atoms.name ?amv ?amx ?amd ?amn; (case amv => exact rfl); (case amx => exact rfl); (case amd => decide); (case amn => k_extra "atoms"))
  k_with "spliced" =>
    ((try dsimp only); k_dflt (refine' spliced_atoms ?saF ?sae ?saH ?_ ?sak; (case saF => k_asm); (case sae => exact rfl); (case sak => exact rfl); (case saH => k_extra "atoms"); k_whole))
  k_with "eval Tuple" =>
    ((try dsimp only); k_dflt (refine' tuple_atoms ?saF ?saN ?sae ?saH ?saz ?_ ?sak; (case saF => k_asm); (case sae => exact rfl); (case saN => k_asm); (case sak => exact rfl); (case saH => k_extra "atoms"); (case saz => kmk_size)); intro D' h' F' N' l1; (try k_lt l1); (try k_sweep))
  k_with "eval List" =>
    ((try dsimp only); k_dflt (refine' list_atoms ?saF ?saN ?sae ?saH ?saz ?_ ?sak; (case saF => k_asm); (case sae => exact rfl); (case saN => k_asm); (case sak => exact rfl); (case saH => k_extra "atoms"); (case saz => kmk_size); k_whole); intro l' h' F' N' l1; (try k_lt l1); (try k_sweep))
  k_with "eval Call" =>
    ((try dsimp only); k_dflt (refine' call_atoms ?saF ?saX ?saT ?saE ?sae ?sakp ?saH ?_ ?sax ?sad ?sas ?sap ?sak; (case saF => k_asm); (case saE => exact rfl); (case saX => k_asm); (case saT => k_asm); (case sax => exact rfl); (case sae => k_is); (case sakp => k_is); (case saH => k_extra "atoms"); (case sad => decide); (case sas => exact rfl); (case sap => exact rfl); (case sak => exact rfl); k_whole))
  k_with "eqNo" =>
    first | exact EqC.int_no (by decide) | exact EqC.str_no (by with_reducible assumption) | exact EqC.str_no (by decide +kernel) | exact EqC.int_no (by omega)
  k_with "eqYes" =>
    first | exact EqC.int_yes rfl | exact EqC.str_yes (by with_reducible assumption) | exact EqC.str_yes (by decide +kernel) | exact EqC.int_yes (by omega)
  k_with "exec If" =>
    ((with_reducible show wpAny _ _ (exec (Stmt.If (Expr.Compare (Expr.Name _ _) [CmpOp.Eq] [Expr.Constant _ _ _] _) _ _ _) _) _ _ _); k_dflt (first
      | (refine' if_no ?siF ?sie ?siv ?sin ?_ ?six ?sid ?sik; (case siF => k_asm); (case sie => exact rfl); (case siv => exact rfl); (case sin => k_extra "eqNo"); (case six => exact rfl); (case sid => decide); (case sik => exact rfl); k_whole)
      | (refine' if_yes ?siF ?sie ?siv ?sin ?_ ?six ?sid ?sik; (case siF => k_asm); (case sie => exact rfl); (case siv => exact rfl); (case sin => k_extra "eqYes"); (case six => exact rfl); (case sid => decide); (case sik => exact rfl); k_whole)))
  k_with "kat_tups" =>
    first | with_reducible_and_instances exact List.Mem.head _ | (refine List.Mem.tail _ ?_; kat_tups) | (refine List.mem_append.mpr (Or.inl ?_); kat_tups) | (refine List.mem_append.mpr (Or.inr ?_); kat_tups) | with_reducible assumption | with_reducible_and_instances exact hq | ((with_reducible show List.Mem _ _); with_reducible_and_instances assumption)
  k_with "top_args" =>
    first | exact List.forall_mem_nil _ | (refine List.forall_mem_cons.mpr (And.intro ?_ ?_); kat_tups; top_args) | (refine List.forall_mem_append.mpr (And.intro ?_ ?_); top_args; top_args) | (intro q hq; kat_tups)
  k_with "mem_news" =>
    first | ((with_reducible_and_instances (repeat (first | exact List.Mem.head _ | refine List.Mem.tail _ ?_))); done) | ((with_reducible show _ ∈ _); kat_tups) | ((try dsimp only [penL, booksL, mled, List.cons_append, List.nil_append]); top_args)
  k_with "ltD" =>
    first | with_reducible assumption | exact lt_l1 (by with_reducible assumption) (by kat_tups) | omega
  k_with "k_ne" =>
    (refine neN ?_; (try dsimp only); first | with_reducible assumption | with_reducible exact Ne.symm (by with_reducible assumption) | with_reducible exact Nat.ne_of_lt (by with_reducible assumption) | with_reducible exact Nat.ne_of_gt (by with_reducible assumption) | exact ne_l1 (by with_reducible assumption) (by kat_tups) | exact Ne.symm (ne_l1 (by with_reducible assumption) (by kat_tups)) | exact ne_l1s (by with_reducible assumption) (by kat_tups) | exact Ne.symm (ne_l1s (by with_reducible assumption) (by kat_tups)) | exact ne_lt2 (by with_reducible assumption) (by with_reducible assumption) (by kat_tups) | exact Ne.symm (ne_lt2 (by with_reducible assumption) (by with_reducible assumption) (by kat_tups)) | exact Anew.ne (by with_reducible assumption) (by kat_tups) | exact Ne.symm (Anew.ne (by with_reducible assumption) (by kat_tups)) | omega)
  k_with "k_all" =>
    first | exact List.forall_mem_nil _ | with_reducible assumption | exact tail_l1 (by with_reducible assumption) (by intro q hq; kat_tups) | (refine' List.forall_mem_cons.mpr ⟨?kaa, ?kab⟩; (case kaa => k_ne); (case kab => k_all))
  k_with "k_allIn" =>
    first | exact True.intro | with_reducible assumption | ((with_reducible refine AllNe.app ?_ ?_) <;> k_allIn) | (refine And.intro ?kah ?_; (case kah => k_memK); k_allIn)
  k_with "useC" =>
    (
      (case F => k_asm)
      (case N => k_asm)
      (case A => exact rfl)
      (case L => exact rfl)
      (case K => intro h9; cases h9)
      (case d => ktr_room)
      (case u => ktr_units)
      (case P => tb_start)
      (case ne => k_allIn))
  k_with "dipC" =>
    (
      (case ta => with_reducible assumption)
      (case tb => assumption)
      (case tc => assumption)
      k_extra "useC"
      (case tg => first | with_reducible assumption | omega)
      (case th => first | exact PB.lt6 (by with_reducible assumption) (by with_reducible assumption) (by decide) | exact PB.lt (by with_reducible assumption) (by with_reducible assumption) (by decide) | omega)
      (case ti => first | with_reducible assumption | omega))
  k_with "pbStep" =>
    (have hPB := PB.step (by with_reducible assumption) hp1)
  k_with "k_inst" =>
    exact InstAt_Fr (by k_asm) (by with_reducible assumption)
  k_with "compareOp In str ref" =>
    (k_dflt (refine' in_list_strs ?lsl ?lsi ?_; (case lsl => exact IsList_Fr (by k_asm) (by with_reducible assumption)); (case lsi => with_reducible assumption)))
  k_with "compareOp NotIn str ref" =>
    (k_dflt (refine' notin_list_strs ?lsl ?lsi ?_; (case lsl => exact IsList_Fr (by k_asm) (by with_reducible assumption)); (case lsi => with_reducible assumption)))
  k_with "exec For Name Attribute cons nil" =>
    (k_dflt (refine' For_own ?_ ?s; (case s => intro _; rfl)))
  k_with "exec For Name Name cons nil" =>
    (k_dflt (refine' For_own ?_ ?s; (case s => intro _; rfl)))
  k_with "geOut" =>
    (
      refine geEnd (by k_asm) fun h' e t₀ dd tk' kp he0 he => ?_
      refine raise_out gk' (fun p hp => (fp p hp).1) B' (by k_asm) ?_ kp he0 he rfl fun h2 fl => ?_
      boot_fact)
  k_with "subscriptTail" =>
    ((with_reducible show wpAny _ _ (subscriptTail _ _ (Value.ref _) (Value.int 0 _)) _ _ _); k_dflt (refine' item_base0 ?ibl ?ibx ?_; (case ibl => exact IsList_Fr (by k_asm) (by with_reducible assumption)); (case ibx => with_reducible assumption)))
  k_with "exec Assign cons ListComp" =>
    (k_dflt (refine LCg.Assign_ListComp_U (F₀ := by k_asm) (by rfl) (by with_unfolding_all rfl) (by with_unfolding_all rfl) (by decide) (by rfl) (by decide) (by rfl) (by rfl) (by rfl) ?_))
  k_with "eval ListComp" =>
    (k_dflt (refine LCg.ListComp_U (F₀ := by k_asm) (by with_unfolding_all rfl) (by decide) (by rfl) (by decide) (by rfl) ?_))
  k_with "CompSrc" =>
    refine hold_ ?_
  k_with "k_handed" =>
    with_reducible assumption
  k_with "ltSkip" => skip
  trivial
/-- a rule, in the mind -/
structure RuleD where
  number : Int
  left : Int
  right : List Int
  level : Int
  action : Option Str
  line : Int
  before : Int
abbrev rattrs (w : World) (k1 k2 k3 k4 k5 k6 k7 : Tok) (nv lv rv ev av iv bv : Value) : List DictEntry :=
  [⟨PyData.keyHash w.params "number", .str "number" k1, nv⟩, ⟨PyData.keyHash w.params "left", .str "left" k2, lv⟩, ⟨PyData.keyHash w.params "right", .str "right" k3, rv⟩, ⟨PyData.keyHash w.params "level_of", .str "level_of" k4, ev⟩,
   ⟨PyData.keyHash w.params "action", .str "action" k5, av⟩, ⟨PyData.keyHash w.params "line", .str "line" k6, iv⟩, ⟨PyData.keyHash w.params "before", .str "before" k7, bv⟩]
noncomputable def RPost (w : World) (nv lv rv ev av iv bv : Value) (x dx : Addr) (n : List (Addr × Obj)) : Prop := ∃ k1 k2 k3 k4 k5 k6 k7, n = [(x, instObj 80 dx), (dx, dictOf (rattrs w k1 k2 k3 k4 k5 k6 k7 nv lv rv ev av iv bv) 7)]
section
variable {w : World} {loose : List Str} {mean : ExcName → Option Value} {mg mb : Str → Option Value} {base : Heap}
theorem r_init7 {h : Heap} {x dx : Addr} {n1 n2 n4 n6 n7 : Int} {t1 t2 t4 t6 t7 : Tok} {r : Addr} {av : Value} {ao : Option Str} (hav : OptS av ao) (l : @LT.lt Nat instLTNat dx x) :
    FP base h [(x, instObj 80 dx), (dx, dictOf [] 0)] → Spec w loose mean mg mb base 77 [.ref x, .int n1 t1, .int n2 t2, .ref r, .int n4 t4, av, .int n6 t6, .int n7 t7] 3 h [(x, instObj 80 dx), (dx, dictOf [] 0)]
      (fun v n => v = .none ∧ RPost w (.int n1 t1) (.int n2 t2) (.ref r) (.int n4 t4) av (.int n6 t6) (.int n7 t7) x dx n) False := by
  intro fp
  krn_off
  k_steps
  exact leaveC (by k_asm) (by k_asm) fun kp nw => ret _ _ _ _ kp nw ⟨rfl, _, _, _, _, _, _, _, rfl⟩
theorem r_init4 {h : Heap} {x dx : Addr} {n1 n2 n4 : Int} {t1 t2 t4 : Tok} {r : Addr} (l : @LT.lt Nat instLTNat dx x) :
    FP base h [(x, instObj 80 dx), (dx, dictOf [] 0)] → Spec w loose mean mg mb base 77 [.ref x, .int n1 t1, .int n2 t2, .ref r, .int n4 t4] 3 h [(x, instObj 80 dx), (dx, dictOf [] 0)]
      (fun v n => v = .none ∧ ∃ t6 t7, RPost w (.int n1 t1) (.int n2 t2) (.ref r) (.int n4 t4) .none (.int 0 t6) (.int 0 t7) x dx n) False := by
  intro fp
  ktr_step
  k_steps
  exact leaveC (by k_asm) (by k_asm) fun kp nw => ret _ _ _ _ kp nw ⟨rfl, _, _, _, _, _, _, _, _, _, rfl⟩
end
/-- what the books say of a maker -/
structure Agree (K : BKS) (S : MS) : Prop where
  lv : S.lv.map (·.1) = FREE.take K.k
  k4 : K.k ≤ 4
  s0 : K.s = 0 → S.st = none
  s1 : K.s > 0 → S.st ≠ none
  x0 : K.x = 0 → S.ex = none
  x1 : K.x > 0 → S.ex ≠ none
theorem keyIn_map (lv : Lv) (x : Str) : keyIn lv x = (lv.map (·.1)).any fun y => y == x := by
  rw [keyIn, List.any_map]; rfl
noncomputable def lvChk (k j : Nat) : Bool := (List.range 4).all fun i => match ((FREE.drop k).take j)[i]? with
  | none => true
  | some x => !(kept x || ((FREE.take k).any fun y => y == x) || (((FREE.drop k).take j).take i).any fun y => y == x)
theorem lvChk_all : ∀ k, k < 5 → ∀ j, j < 5 → lvChk k j = true := by decide +kernel
theorem lv_fine {k j i : Nat} {x : Str} {lv : Lv} (hl : lv.map (·.1) = FREE.take k) (hk : k + j ≤ 4) (e : ((FREE.drop k).take j)[i]? = some x) : nameBad lv ((FREE.drop k).take j) i x = false := by
  have hi : i < 4 := by
    have := (List.getElem?_eq_some_iff.mp e).1
    rw [List.length_take, List.length_drop] at this
    have q : FREE.length = 4 := rfl
    omega
  have := List.all_eq_true.mp (lvChk_all k (by omega) j (by omega)) i (List.mem_range.mpr hi)
  rw [e] at this
  rw [nameBad, keyIn_map, hl]
  simpa using this
theorem sides_any : ∀ y ∈ sides, (sides.any fun z => z == y) = true := by decide +kernel
theorem take_len {k j : Nat} (h0 : 0 < j) (hk : k + j ≤ 4) : (FREE.drop k).take j ≠ [] := by
  intro e
  have := congrArg List.length e
  rw [List.length_take, List.length_drop] at this
  have q : FREE.length = 4 := rfl
  simp only [List.length_nil] at this
  omega
theorem fixed_free : (∀ y ∈ [Str.ofString "t", Str.ofString "s"], kept y = false) ∧ (∀ y ∈ [Str.ofString "s", Str.ofString "t"], kept y = false) ∧ (∀ y ∈ [Str.ofString "A", Str.ofString "B", Str.ofString "'-'", Str.ofString "error"], kept y = false) ∧ kept (Str.ofString "A") = false ∧ kept (Str.ofString "'*'") = false := by decide +kernel
theorem good_ok {K K' : BKS} {S : MS} {c : Cal} (A : Agree K S) (h : GoodStep K c K') : calOk S c ∧ Agree K' (calDo S c) := by
  obtain ⟨lv, k4, s0, s1, x0, x1⟩ := A
  obtain ⟨f1, f2, f3, f4, f5⟩ := fixed_free
  cases h with
  | level side j hs h0 hk =>
    refine ⟨⟨sides_any _ hs, take_len h0 hk, fun i x e => lv_fine lv hk e⟩, ?_, hk, s0, s1, x0, x1⟩
    rw [calDo]
    dsimp only
    rw [List.map_append, lv, lvNew, List.map_map]
    have : ((fun (x : Str × (Int × Str)) => x.1) ∘ fun x => (x, (S.lc + 1, side))) = id := rfl
    rw [this, List.map_id, take_add']
  | start y hz hy =>
    refine ⟨⟨s0 hz, f1 y hy⟩, lv, k4, fun h => ?_, fun _ h => ?_, x0, x1⟩
    · cases h
    · cases h
  | expect n hz => exact ⟨x0 hz, lv, k4, s0, s1, fun h => (by cases h), fun _ h => (by cases h)⟩
  | token y hy => exact ⟨f3 y hy, lv, k4, s0, s1, x0, x1⟩
  | rule y ps po hy hg hl hpo =>
    refine ⟨?_, lv, k4, s0, s1, x0, x1⟩
    have e1 : (ps.all fun p => !partBad p) = true := List.all_eq_true.mpr fun p hp => by rw [(hg p hp).1.1]; rfl
    have e2 : (po.any kept) = false := by
      rcases hpo with rfl | rfl | rfl
      · rfl
      · exact f4
      · exact f5
    show crOk y ps po = true
    rw [crOk, e1, e2, f2 y hy]; rfl
theorem bad_names : (sides.any fun z => z == Str.ofString "up") = false := by decide +kernel
theorem bad_no {K : BKS} {S : MS} {c : Cal} (A : Agree K S) (h : BadStep K c) : ¬ calOk S c := by
  obtain ⟨lv, k4, s0, s1, x0, x1⟩ := A
  cases h with
  | part ps q hq hb =>
    intro h
    have h : crOk _ _ _ = true := h
    simp only [crOk, Bool.and_eq_true, List.all_eq_true] at h
    have := h.1.2 q hq
    rw [hb] at this; cases this
  | prec ps y hk => intro h; rw [ok_prec h] at hk; cases hk
  | left ps y hk =>
    intro h
    have h : crOk _ _ _ = true := h
    simp only [crOk, Bool.and_eq_true, hk] at h
    cases h.1.1
  | lev y hy =>
    intro h
    have q := h.2.2 2 y rfl
    rw [nameBad, keyIn_map, lv] at q
    rcases hy with hy | hy | hy
    · rw [hy] at q; cases q
    · have : ((FREE.take K.k).any fun z => z == y) = true := List.any_eq_true.mpr ⟨y, hy, by simp⟩
      rw [this] at q; simp at q
    · have : (([Str.ofString "p", Str.ofString "q", y].take 2).any fun z => z == y) = true := List.any_eq_true.mpr ⟨y, hy, by simp⟩
      rw [this] at q; simp at q
  | side => intro h; have := h.1; rw [bad_names] at this; cases this
  | empty => intro h; exact h.2.1 rfl
  | token y hk => intro h; rw [show kept y = false from h] at hk; cases hk
  | expect hx => intro h; exact x1 hx h
  | start y hy =>
    intro h
    rcases hy with hy | hy
    · exact s1 hy h.1
    · rw [h.2] at hy; cases hy
noncomputable def S0 : MS := ⟨[], [], 0, [], [], 0, none, none⟩
theorem agree0 : Agree ⟨0, 0, 0⟩ S0 := { lv := rfl, k4 := by decide, s0 := fun _ => rfl, s1 := fun h => absurd h (by decide), x0 := fun _ => rfl, x1 := fun h => absurd h (by decide) }
/-- how far a maker has grown -/
structure Grow (n : Nat) (S : MS) : Prop where
  ts : S.ts.length ≤ 12 * n
  ds : S.ds.length ≤ 12 * n
  ls : S.ls.length ≤ 12 * n
  c0 : 0 ≤ S.lc
  c1 : S.lc ≤ n
  m0 : 0 ≤ S.mc
  m1 : S.mc ≤ 12 * n
theorem grow0 : Grow 0 S0 := ⟨Nat.le_refl _, Nat.le_refl _, Nat.le_refl _, Int.le_refl _, Int.le_refl _, Int.le_refl _, Int.le_refl _⟩
theorem add_len (ss : List Str) (x : Str) : (addTok ss x).length ≤ ss.length + 1 := by unfold addTok; split <;> simp
theorem new_len (ss : List Str) (x : Str) : (addNew ss x).length ≤ ss.length + 1 := by unfold addNew; split <;> simp
theorem use_len (ss : List Str) (x : Str) : (useTok ss x).length ≤ ss.length + 1 := by unfold useTok; split; exact add_len _ _; omega
theorem fold_len : ∀ (ns ss : List Str), (ns.foldl addTok ss).length ≤ ss.length + ns.length
  | [], ss => Nat.le_refl _
  | x :: ns, ss => by
    have h1 := fold_len ns (addTok ss x)
    have h2 := add_len ss x
    rw [List.foldl_cons, List.length_cons]
    omega
theorem grow_step {n : Nat} {K K' : BKS} {S : MS} {c : Cal} (G : Grow n S) (h : GoodStep K c K') : Grow (n + 1) (calDo S c) := by
  obtain ⟨g1, g2, g3, g4, g5, g6, g7⟩ := G
  cases h with
  | level side j hs h0 hk =>
    have := fold_len ((FREE.drop K.k).take j) S.ts
    rw [List.length_take] at this
    refine ⟨?_, ?_, ?_, ?_, ?_, ?_, ?_⟩ <;> dsimp only [calDo] <;> omega
  | start y hz hy => refine ⟨?_, ?_, ?_, ?_, ?_, ?_, ?_⟩ <;> dsimp only [calDo] <;> omega
  | expect m hz => refine ⟨?_, ?_, ?_, ?_, ?_, ?_, ?_⟩ <;> dsimp only [calDo] <;> omega
  | token y hy =>
    have := add_len S.ts y
    refine ⟨?_, ?_, ?_, ?_, ?_, ?_, ?_⟩ <;> dsimp only [calDo] <;> omega
  | rule y ps po hy hg hl hpo =>
    obtain ⟨r1, r2, r3, r4, r5, r6⟩ := run_small ps 4 ⟨S.ts, addNew S.ls y, S.mc, [], [], none⟩ ps.length
    dsimp only at r1 r2 r3 r4 r5 r6
    have q1 := new_len S.ls y
    simp only [List.length_nil] at r3 r4
    have r7 : (calDo S (.rule y ps po)).ts.length ≤ 12 * (n + 1) := by
      cases po with
      | none => dsimp only [calDo, ruleEnd]; omega
      | some z =>
        have := use_len (partsRun ps 4 ⟨S.ts, addNew S.ls y, S.mc, [], [], none⟩ ps.length).ts z
        dsimp only [calDo, ruleEnd]; omega
    refine ⟨r7, ?_, ?_, ?_, ?_, ?_, ?_⟩ <;> dsimp only [calDo, ruleEnd] <;> (try simp only [List.length_append, List.length_cons, List.length_nil]) <;> omega
theorem fit_of {n : Nat} {K : BKS} {S : MS} (G : Grow n S) (A : Agree K S) (hn : n ≤ 8) : MFit S := by
  obtain ⟨g1, g2, g3, g4, g5, g6, g7⟩ := G
  have hl : S.lv.length ≤ 4 := by
    have := congrArg List.length A.lv
    rw [List.length_map, List.length_take] at this
    have := A.k4
    omega
  constructor <;> omega
theorem side_small : ∀ y ∈ sides, y.length < 1000 := by decide +kernel
theorem fixed_small : (∀ y ∈ [Str.ofString "t", Str.ofString "s"], y.length < 1000) ∧ (∀ y ∈ [Str.ofString "s", Str.ofString "t"], y.length < 1000) ∧ (∀ y ∈ [Str.ofString "A", Str.ofString "B", Str.ofString "'-'", Str.ofString "error"], y.length < 1000) ∧ (Str.ofString "A").length < 1000 ∧ (Str.ofString "'*'").length < 1000 := by decide +kernel
theorem good_fits {K K' : BKS} {c : Cal} (h : GoodStep K c K') : calFits c := by
  obtain ⟨f1, f2, f3, f4, f5⟩ := fixed_small
  cases h with
  | level side j hs h0 hk => exact ⟨side_small _ hs, fun x hx => FREE_small x (List.mem_of_mem_drop (List.mem_of_mem_take hx)), by rw [List.length_take]; omega⟩
  | start y hz hy => exact f1 y hy
  | expect n hz => exact True.intro
  | token y hy => exact f3 y hy
  | rule y ps po hy hg hl hpo =>
    refine ⟨f2 y hy, fits_parts (good_small hg), fun z hz => ?_, by omega⟩
    rcases hpo with rfl | rfl | rfl
    · cases hz
    · cases hz; exact f4
    · cases hz; exact f5
noncomputable def okS (x : Str) : Prop := x.length < 1000 ∧ PyData.strOk x = true
/-- a maker of which a grammar can be made without a missing key -/
structure SoundS (S : MS) : Prop where
  left : ∀ D ∈ S.ds, D.left ∈ S.ls
  right : ∀ D ∈ S.ds, (∀ y ∈ D.right, okS y) ∧ D.right.length < 90
  prec : ∀ D ∈ S.ds, ∀ y, D.prec = some y → okS y
  act : ∀ D ∈ S.ds, ∀ y, D.action = some y → PyData.strOk y = true
  lvn : ∀ q ∈ S.lv, (q.1 ∈ S.ts ∨ q.1 = Str.ofString "error") ∧ okS q.1 ∧ PyData.strOk q.2.2 = true
  ts : ∀ y ∈ S.ts, okS y
  ls : ∀ y ∈ S.ls, okS y
  st : ∀ y, S.st = some y → okS y
theorem sound0 : SoundS S0 := ⟨fun _ h => (nomatch h), fun _ h => (nomatch h), fun _ h => (nomatch h), fun _ h => (nomatch h), fun _ h => (nomatch h), fun _ h => (nomatch h), fun _ h => (nomatch h), fun _ h => (nomatch h)⟩
theorem add_sub {ss : List Str} {x : Str} : ∀ y ∈ ss, y ∈ addTok ss x := fun y hy => by unfold addTok; split; exact List.mem_append.mpr (.inl hy); exact hy
theorem add_in {ss : List Str} {x y : Str} (h : y ∈ addTok ss x) : y ∈ ss ∨ y = x := by
  unfold addTok at h
  split at h
  · rcases List.mem_append.mp h with q | q
    · exact .inl q
    · exact .inr (List.mem_singleton.mp q)
  · exact .inl h
theorem add_has {ss : List Str} {x : Str} : x ∈ addTok ss x ∨ x = Str.ofString "error" := by
  unfold addTok
  split
  · exact .inl (by simp)
  · rename_i h
    by_cases hx : x = Str.ofString "error"
    · exact .inr hx
    · refine .inl ?_
      have : (x != Str.ofString "error") = true := by simpa using hx
      simp only [this, true_and, Bool.not_eq_false] at h
      obtain ⟨y, hy, e⟩ := List.any_eq_true.mp h
      rw [← eq_of_beq e]; exact hy
theorem use_in {ss : List Str} {x y : Str} (h : y ∈ useTok ss x) : y ∈ ss ∨ y = x := by
  unfold useTok at h
  split at h
  · exact add_in h
  · exact .inl h
theorem use_sub {ss : List Str} {x : Str} : ∀ y ∈ ss, y ∈ useTok ss x := fun y hy => by unfold useTok; split; exact add_sub y hy; exact hy
theorem new_in {ss : List Str} {x y : Str} (h : y ∈ addNew ss x) : y ∈ ss ∨ y = x := by
  unfold addNew at h
  split at h
  · rcases List.mem_append.mp h with q | q
    · exact .inl q
    · exact .inr (List.mem_singleton.mp q)
  · exact .inl h
theorem new_sub {ss : List Str} {x : Str} : ∀ y ∈ ss, y ∈ addNew ss x := fun y hy => by unfold addNew; split; exact List.mem_append.mpr (.inl hy); exact hy
theorem new_has {ss : List Str} {x : Str} : x ∈ addNew ss x := by
  unfold addNew
  split
  · simp
  · rename_i h
    simp only [Bool.not_eq_false] at h
    obtain ⟨y, hy, e⟩ := List.any_eq_true.mp h
    rw [← eq_of_beq e]; exact hy
theorem fold_sub : ∀ (ns ss : List Str), ∀ y ∈ ss, y ∈ ns.foldl addTok ss
  | [], _, _, h => h
  | _ :: ns, _, y, h => fold_sub ns _ y (add_sub y h)
theorem fold_in : ∀ (ns ss : List Str), ∀ y ∈ ns.foldl addTok ss, y ∈ ss ∨ y ∈ ns
  | [], _, _, h => .inl h
  | x :: ns, _, y, h => by
    rcases fold_in ns _ y h with q | q
    · rcases add_in q with q | rfl
      · exact .inl q
      · exact .inr (.head _)
    · exact .inr (.tail _ q)
theorem fold_has : ∀ (ns ss : List Str), ∀ y ∈ ns, y ∈ ns.foldl addTok ss ∨ y = Str.ofString "error"
  | x :: ns, ss, y, h => by
    rcases List.mem_cons.mp h with rfl | h
    · rcases add_has (ss := ss) (x := y) with q | q
      · exact .inl (fold_sub ns _ y q)
      · exact .inr q
    · exact fold_has ns _ y h
theorem mname_nat : ∀ k, k < 120 → (mname (k : Nat)).length < 1000 ∧ PyData.strOk (mname (k : Nat)) = true := by decide +kernel
theorem mname_ok {c : Int} (h0 : 0 ≤ c) (h1 : c < 120) : okS (mname c) := by
  obtain ⟨k, rfl⟩ : ∃ k : Nat, c = k := ⟨c.toNat, by omega⟩
  exact mname_nat k (by omega)
theorem free_ok : ∀ y ∈ FREE, y.length < 1000 ∧ PyData.strOk y = true := by decide +kernel
theorem sides_ok : ∀ y ∈ sides, PyData.strOk y = true := by decide +kernel
theorem fixed_ok : (∀ y ∈ [Str.ofString "t", Str.ofString "s"], y.length < 1000 ∧ PyData.strOk y = true) ∧ (∀ y ∈ [Str.ofString "s", Str.ofString "t"], y.length < 1000 ∧ PyData.strOk y = true) ∧ (∀ y ∈ [Str.ofString "A", Str.ofString "B", Str.ofString "'-'", Str.ofString "error"], y.length < 1000 ∧ PyData.strOk y = true) ∧ ((Str.ofString "A").length < 1000 ∧ PyData.strOk (Str.ofString "A") = true) ∧ ((Str.ofString "'*'").length < 1000 ∧ PyData.strOk (Str.ofString "'*'") = true) := by decide +kernel
structure RSok (R : RS) : Prop where
  ts : ∀ y ∈ R.ts, okS y
  ls : ∀ y ∈ R.ls, okS y
  ds : ∀ D ∈ R.ds, D.left ∈ R.ls ∧ D.right = [] ∧ D.prec = none ∧ ∀ y, D.action = some y → PyData.strOk y = true
  right : ∀ y ∈ R.right, okS y
  act : ∀ y, R.act = some y → PyData.strOk y = true
theorem run_ok {ps : List Part} {R : RS} (hR : RSok R) (h0 : 0 ≤ R.mc) (h1 : R.mc < 100) (hg : ∀ q ∈ ps, goodPart q) : ∀ i, i < 15 → RSok (partsRun ps 4 R i) ∧ ∀ y ∈ R.ls, y ∈ (partsRun ps 4 R i).ls ∧ ∀ y ∈ R.ts, y ∈ (partsRun ps 4 R i).ts
  | 0, _ => ⟨hR, fun y hy => ⟨hy, fun _ h => h⟩⟩
  | i + 1, hi => by
    obtain ⟨⟨a1, a2, a3, a4, a5⟩, ih⟩ := run_ok hR h0 h1 hg i (by omega)
    obtain ⟨_, _, _, _, r5, r6⟩ := run_small ps 4 R i
    have hm : okS (mname (partsRun ps 4 R i).mc) := mname_ok (by omega) (by omega)
    rw [partsRun]
    cases hp : ps[i]? with
    | none => exact ⟨⟨a1, a2, a3, a4, a5⟩, ih⟩
    | some p =>
      have gp := hg p (List.mem_of_getElem? hp)
      have hx : okS p.2 := ⟨gp.2.2, gp.1.2⟩
      dsimp only
      rw [partStep]
      split
      · refine ⟨⟨fun y hy => ?_, a2, a3, fun y hy => ?_, a5⟩, fun y hy => ⟨(ih y hy).1, fun z hz => use_sub z ((ih y hy).2 z hz)⟩⟩
        · rcases use_in hy with q | rfl
          · exact a1 y q
          · exact hx
        · rcases List.mem_append.mp hy with q | q
          · exact a4 y q
          · rw [List.mem_singleton.mp q]; exact hx
      · split
        · exact ⟨⟨a1, a2, a3, a4, fun y hy => by cases hy; exact hx.2⟩, ih⟩
        · refine ⟨⟨a1, fun y hy => ?_, fun D hD => ?_, fun y hy => ?_, a5⟩, fun y hy => ⟨new_sub y (ih y hy).1, (ih y hy).2⟩⟩
          · rcases new_in hy with q | rfl
            · exact a2 y q
            · exact hm
          · rcases List.mem_append.mp hD with q | q
            · obtain ⟨b1, b2, b3, b4⟩ := a3 D q
              exact ⟨new_sub _ b1, b2, b3, b4⟩
            · rw [List.mem_singleton.mp q]
              exact ⟨new_has, rfl, rfl, fun y hy => by cases hy; exact hx.2⟩
          · rcases List.mem_append.mp hy with q | q
            · exact a4 y q
            · rw [List.mem_singleton.mp q]; exact hm
theorem ts_end {po : Option Str} {ts : List Str} {y : Str} (h : y ∈ (match po with | none => ts | some z => useTok ts z)) : y ∈ ts ∨ po = some y := by
  cases po with
  | none => exact .inl h
  | some z =>
    rcases use_in h with q | rfl
    · exact .inl q
    · exact .inr rfl
theorem ts_end2 {po : Option Str} {ts : List Str} {y : Str} (h : y ∈ ts) : y ∈ (match po with | none => ts | some z => useTok ts z) := by
  cases po with
  | none => exact h
  | some z => exact use_sub y h
theorem sound_step {n : Nat} {K K' : BKS} {S : MS} {c : Cal} (Sd : SoundS S) (G : Grow n S) (hn : n ≤ 7) (h : GoodStep K c K') : SoundS (calDo S c) := by
  obtain ⟨f1, f2, f3, f4, f5⟩ := fixed_ok
  obtain ⟨s1, s2, s3, s4, s5, s6, s7, s8⟩ := Sd
  cases h with
  | level side j hs h0 hk =>
    have hin : ∀ y ∈ (FREE.drop K.k).take j, okS y := fun y hy => free_ok y (List.mem_of_mem_drop (List.mem_of_mem_take hy))
    refine ⟨s1, s2, s3, s4, fun q hq => ?_, fun y hy => ?_, s7, s8⟩
    · rcases List.mem_append.mp hq with hq | hq
      · obtain ⟨a, b⟩ := s5 q hq
        exact ⟨a.elim (fun a => .inl (fold_sub _ _ _ a)) .inr, b⟩
      · obtain ⟨y, hy, rfl⟩ := List.mem_map.mp hq
        exact ⟨fold_has _ _ y hy, hin y hy, sides_ok _ hs⟩
    · rcases fold_in _ _ y hy with q | q
      · exact s6 y q
      · exact hin y q
  | start y hz hy => exact ⟨s1, s2, s3, s4, s5, s6, s7, fun z hz => by cases hz; exact f1 y hy⟩
  | expect m hz => exact ⟨s1, s2, s3, s4, s5, s6, s7, s8⟩
  | token y hy =>
    refine ⟨s1, s2, s3, s4, fun q hq => ?_, fun z hz => ?_, s7, s8⟩
    · obtain ⟨a, b⟩ := s5 q hq
      exact ⟨a.elim (fun a => .inl (add_sub _ a)) .inr, b⟩
    · rcases add_in hz with q | rfl
      · exact s6 z q
      · exact f3 z hy
  | rule y ps po hy hg hl hpo =>
    have hpo' : ∀ z, po = some z → okS z := fun z hz => by
      rcases hpo with rfl | rfl | rfl
      · cases hz
      · cases hz; exact f4
      · cases hz; exact f5
    have hR0 : RSok ⟨S.ts, addNew S.ls y, S.mc, [], [], none⟩ := ⟨s6, fun z hz => by
      rcases new_in hz with q | rfl
      · exact s7 z q
      · exact f2 z hy, fun _ h => (nomatch h), fun _ h => (nomatch h), fun _ h => (nomatch h)⟩
    have hmc := G.m1
    have hm0 := G.m0
    obtain ⟨⟨a1, a2, a3, a4, a5⟩, ih⟩ := run_ok hR0 hm0 (by show S.mc < 100; omega) hg ps.length (by omega)
    obtain ⟨r1, r2, r3, r4, r5, r6⟩ := run_small ps 4 ⟨S.ts, addNew S.ls y, S.mc, [], [], none⟩ ps.length
    simp only [List.length_nil] at r4
    have lsub : ∀ z ∈ S.ls, z ∈ (ruleEnd y ps po 4 S.ts S.ls S.mc).ls := fun z hz => (ih z (new_sub z hz)).1
    have hyl : y ∈ (ruleEnd y ps po 4 S.ts S.ls S.mc).ls := (ih y new_has).1
    have dcase : ∀ D ∈ S.ds ++ (ruleEnd y ps po 4 S.ts S.ls S.mc).ds, D ∈ S.ds ∨ D ∈ (partsRun ps 4 ⟨S.ts, addNew S.ls y, S.mc, [], [], none⟩ ps.length).ds ∨ D = ⟨y, (partsRun ps 4 ⟨S.ts, addNew S.ls y, S.mc, [], [], none⟩ ps.length).right, po, (partsRun ps 4 ⟨S.ts, addNew S.ls y, S.mc, [], [], none⟩ ps.length).act, 4, 0⟩ := fun D hD => by
      rcases List.mem_append.mp hD with q | q
      · exact .inl q
      · rcases List.mem_append.mp q with q | q
        · exact .inr (.inl q)
        · exact .inr (.inr (List.mem_singleton.mp q))
    refine ⟨fun D hD => ?_, fun D hD => ?_, fun D hD z hz => ?_, fun D hD z hz => ?_, fun q hq => ?_, fun z hz => ?_, a2, s8⟩
    · rcases dcase D hD with q | q | rfl
      · exact lsub _ (s1 D q)
      · exact (a3 D q).1
      · exact hyl
    · rcases dcase D hD with q | q | rfl
      · exact s2 D q
      · rw [(a3 D q).2.1]; exact ⟨fun _ h => (nomatch h), by decide⟩
      · exact ⟨a4, by dsimp only; omega⟩
    · rcases dcase D hD with q | q | rfl
      · exact s3 D q z hz
      · rw [(a3 D q).2.2.1] at hz; cases hz
      · exact hpo' z hz
    · rcases dcase D hD with q | q | rfl
      · exact s4 D q z hz
      · exact (a3 D q).2.2.2 z hz
      · exact a5 z hz
    · obtain ⟨a, b⟩ := s5 q hq
      refine ⟨a.elim (fun a => .inl (ts_end2 ((ih y new_has).2 _ a))) .inr, b⟩
    · rcases ts_end hz with q | q
      · exact a1 z q
      · exact hpo' z q
section
variable {κ ν : Type} [DecidableEq κ]
noncomputable def put (kvs : List (κ × ν)) (k : κ) (v : ν) : List (κ × ν) := if kvs.any (fun q => q.1 = k) then kvs.map (fun q => if q.1 = k then (q.1, v) else q) else kvs ++ [(k, v)]
noncomputable def KvOn (R : Value → ν → Prop) (kvs : List (κ × Value)) (nm : List (κ × ν)) : Prop := All2 (fun kv q => kv.1 = q.1 ∧ R kv.2 q.2) kvs nm
theorem KvOn.any {R : Value → ν → Prop} {kvs : List (κ × Value)} {nm : List (κ × ν)} (h : KvOn R kvs nm) (k : κ) : (kvs.any fun kv => kv.1 = k) = nm.any fun q => q.1 = k := by
  induction h with
  | nil => rfl
  | cons r _ ih => rw [List.any_cons, List.any_cons, ih, r.1]
theorem KvOn.put {R : Value → ν → Prop} {kvs : List (κ × Value)} {nm : List (κ × ν)} (h : KvOn R kvs nm) (k : κ) {v : Value} {u : ν} (hv : R v u) : KvOn R (stored kvs k v) (put nm k u) := by
  rw [stored, Mine.put, h.any]
  split
  · rename_i hany
    clear hany
    induction h with
    | nil => exact .nil
    | cons r _ ih =>
      rw [List.map_cons, List.map_cons]
      refine .cons ?_ ih
      rw [r.1]
      split
      · exact ⟨rfl, hv⟩
      · exact ⟨r.1, r.2⟩
  · exact All2.append h (.cons ⟨rfl, hv⟩ .nil)
noncomputable def getL (nm : List (κ × ν)) (y : κ) : Option ν := (nm.find? fun q => q.1 = y).map (·.2)
theorem KvOn.at {R : Value → ν → Prop} {kvs : List (κ × Value)} {nm : List (κ × ν)} (h : KvOn R kvs nm) (y : κ) : (getL nm y = none ∧ valueAt kvs y = none) ∨ ∃ u v, getL nm y = some u ∧ valueAt kvs y = some v ∧ R v u := by
  induction h with
  | nil => exact .inl ⟨rfl, rfl⟩
  | cons r _ ih =>
    obtain ⟨e, e2⟩ := r
    rename_i kv q kvs nm _
    by_cases hy : q.1 = y
    · refine .inr ⟨q.2, kv.2, ?_, ?_, e2⟩
      · simp [getL, List.find?_cons, hy]
      · simp [valueAt, List.find?_cons, e, hy]
    · simp only [getL, valueAt, List.find?_cons, e, hy, decide_false] at ih ⊢
      exact ih
theorem get_put_aux (nm : List (κ × ν)) (x : κ) (v : ν) (y : κ) : getL (nm.map fun q => if q.1 = x then (q.1, v) else q) y = if x = y then (if (nm.any fun q => q.1 = x) then some v else none) else getL nm y := by
  induction nm with
  | nil => simp [getL]
  | cons q nm ih =>
    rw [getL] at ih ⊢
    rw [List.map_cons, List.find?_cons, getL, List.find?_cons, List.any_cons]
    by_cases hq : q.1 = x
    · simp only [hq, if_true, decide_true, Bool.true_or]
      by_cases hy : x = y
      · simp [hy]
      · simp only [hy, decide_false, if_false]
        rw [ih, if_neg hy]; rfl
    · simp only [hq, if_false, decide_false, Bool.false_or]
      by_cases hy : q.1 = y
      · have : ¬ x = y := fun e => hq (hy.trans e.symm)
        simp [hy, this]
      · simp only [hy, decide_false]
        rw [ih]; rfl
theorem get_put (nm : List (κ × ν)) (x : κ) (v : ν) (y : κ) : getL (put nm x v) y = if x = y then some v else getL nm y := by
  rw [put]
  split
  · rename_i h
    rw [get_put_aux]
    simp only [h, if_true]
  · rename_i h
    rw [getL, List.find?_append, getL]
    by_cases hy : x = y
    · subst hy
      have : nm.find? (fun q => decide (q.1 = x)) = none := by
        rw [List.find?_eq_none]
        intro q hq hx
        exact h (List.any_eq_true.mpr ⟨q, hq, hx⟩)
      rw [this]; simp
    · simp only [List.find?_cons, hy, decide_false, List.find?_nil, if_false]
      cases nm.find? (fun q => decide (q.1 = y)) <;> rfl
theorem put_keys (nm : List (κ × ν)) (x : κ) (v : ν) : (put nm x v).length ≤ nm.length + 1 := by
  rw [put]; split <;> simp
end
theorem getL_num (nm : List (Str × Int)) (y : Str) : getL nm y = numGet nm y := rfl
noncomputable def numsTo (ns : List Str) : Nat → List (Str × Int)
  | 0 => []
  | i + 1 => match ns[i]? with
    | some x => put (numsTo ns i) x i
    | none => numsTo ns i
theorem nums_more {ns : List Str} {i : Nat} {x : Str} (e : ns[i]? = some x) : numsTo ns (i + 1) = put (numsTo ns i) x i := by rw [numsTo, e]
theorem nums_len (ns : List Str) : ∀ i, (numsTo ns i).length ≤ i
  | 0 => Nat.le_refl _
  | i + 1 => by
    have ih := nums_len ns i
    rw [numsTo]
    cases ns[i]? with
    | none => dsimp only; omega
    | some x =>
      dsimp only
      have := put_keys (numsTo ns i) x (i : Int)
      omega
theorem nums_lt (ns : List Str) : ∀ i y k, numGet (numsTo ns i) y = some k → 0 ≤ k ∧ k < i
  | 0, y, k, h => by cases h
  | i + 1, y, k, h => by
    rw [numsTo] at h
    cases e : ns[i]? with
    | none =>
      rw [e] at h
      have := nums_lt ns i y k h
      omega
    | some x =>
      rw [e] at h
      dsimp only at h
      rw [← getL_num, get_put] at h
      split at h
      · cases h; omega
      · have := nums_lt ns i y k h
        omega
theorem nums_has (ns : List Str) : ∀ i j y, j < i → ns[j]? = some y → ∃ k, numGet (numsTo ns i) y = some k
  | i + 1, j, y, hj, hy => by
    rw [numsTo]
    rcases Nat.lt_or_ge j i with q | q
    · obtain ⟨k, hk⟩ := nums_has ns i j y q hy
      cases ns[i]? with
      | none => exact ⟨k, hk⟩
      | some x =>
        dsimp only
        rw [← getL_num, get_put]
        split
        · exact ⟨_, rfl⟩
        · exact ⟨k, hk⟩
    · obtain rfl : j = i := by omega
      rw [hy]
      dsimp only
      rw [← getL_num, get_put, if_pos rfl]
      exact ⟨_, rfl⟩
noncomputable def own3 : List Str := [Str.ofString "$end", Str.ofString "error", Str.ofString "$undefined"]
noncomputable def namesOf (S : MS) : List Str := own3 ++ S.ts ++ [Str.ofString "$accept"] ++ S.ls
noncomputable def numOf (S : MS) : List (Str × Int) := numsTo (namesOf S) (namesOf S).length
theorem numOf_lt {S : MS} {y : Str} {k : Int} (h : numGet (numOf S) y = some k) : 0 ≤ k ∧ k < (namesOf S).length := nums_lt _ _ y k h
theorem numOf_has {S : MS} {y : Str} (h : y ∈ namesOf S) : ∃ k, numGet (numOf S) y = some k := by
  obtain ⟨j, hj⟩ := List.getElem?_of_mem h
  exact nums_has _ _ j y (List.getElem?_eq_some_iff.mp hj).1 hj
theorem numOf_left {S : MS} {y : Str} (h : y ∈ S.ls) : ∃ k, numGet (numOf S) y = some k := numOf_has (by unfold namesOf; simp [h])
theorem numOf_lv {S : MS} {y : Str} (h : y ∈ S.ts ∨ y = Str.ofString "error") : ∃ k, numGet (numOf S) y = some k := numOf_has (by
  unfold namesOf
  rcases h with h | h
  · simp [h]
  · simp [h, own3])
noncomputable def rightNums (nm : List (Str × Int)) : List Str → Option (List Int)
  | [] => some []
  | x :: r => match numGet nm x with
    | none => none
    | some k => match rightNums nm r with
      | none => none
      | some ks => some (k :: ks)
theorem right_none {nm : List (Str × Int)} : ∀ {r : List Str} {x : Str}, x ∈ r → numGet nm x = none → rightNums nm r = none
  | y :: r, x, hm, h => by
    rw [rightNums]
    rcases List.mem_cons.mp hm with rfl | hm
    · rw [h]
    · rw [right_none hm h]
      cases numGet nm y <;> rfl
theorem right_some {nm : List (Str × Int)} : ∀ {r : List Str}, (∀ x ∈ r, numGet nm x ≠ none) → rightNums nm r = some (r.map fun x => (numGet nm x).getD 0)
  | [], _ => rfl
  | y :: r, h => by
    rw [rightNums]
    have h1 := h y (.head _)
    cases e : numGet nm y with
    | none => exact absurd e h1
    | some k =>
      dsimp only
      rw [right_some fun x hx => h x (.tail _ hx)]
      dsimp only
      rw [List.map_cons, e]; rfl
noncomputable def draftRule (nm : List (Str × Int)) (tc : Int) (n : Int) (D : DraftD) : Option RuleD := match rightNums nm D.right with
  | none => none
  | some ns => match levelOf D ns nm tc with
    | none => none
    | some k => some ⟨n, (numGet nm D.left).getD 0, ns, k, D.action, D.line, D.before⟩
noncomputable def rulesRun (nm : List (Str × Int)) (tc : Int) : List DraftD → List RuleD → Option (List RuleD)
  | [], acc => some acc
  | D :: r, acc => match draftRule nm tc acc.length D with
    | none => none
    | some R => rulesRun nm tc r (acc ++ [R])
theorem run_drop {nm : List (Str × Int)} {tc : Int} {ds : List DraftD} {i : Nat} {D : DraftD} {acc : List RuleD} (e : ds[i]? = some D) : rulesRun nm tc (ds.drop i) acc = match draftRule nm tc acc.length D with
    | none => none
    | some R => rulesRun nm tc (ds.drop (i + 1)) (acc ++ [R]) := by
  obtain ⟨h1, h2⟩ := List.getElem?_eq_some_iff.mp e
  rw [List.drop_eq_getElem_cons h1, h2, rulesRun]
/-- a grammar, in the mind -/
structure GramD where
  names : List Str
  tc : Int
  rules : List RuleD
  levels : List (Int × (Int × Str))
  ex : Option Int
  start : Int
noncomputable def lvlsTo (nm : List (Str × Int)) (lv : Lv) : List (Int × (Int × Str)) := lv.foldl (fun acc q => put acc ((numGet nm q.1).getD 0) q.2) []
theorem lvls_more {nm : List (Str × Int)} {lv : Lv} {i : Nat} {q : Str × (Int × Str)} (e : lv[i]? = some q) : lvlsTo nm (lv.take (i + 1)) = put (lvlsTo nm (lv.take i)) ((numGet nm q.1).getD 0) q.2 := by
  rw [List.take_add_one, e, lvlsTo, List.foldl_append]; rfl
noncomputable def madeOf (S : MS) : Option GramD := match startOf S with
  | none => none
  | some x => match rulesRun (numOf S) (3 + S.ts.length) S.ds [⟨0, 3 + S.ts.length, [(numGet (numOf S) x).getD 0, 0], 0, none, 0, 0⟩] with
    | none => none
    | some rs => some ⟨namesOf S, 3 + S.ts.length, rs, lvlsTo (numOf S) S.lv, S.ex, (numGet (numOf S) x).getD 0⟩
theorem made_none0 {S : MS} (h : startOf S = none) : madeOf S = none := by rw [madeOf, h]
theorem start_in {S : MS} {x : Str} (h : startOf S = some x) : x ∈ S.ls := by
  unfold startOf at h
  split at h
  · cases h
  · split at h
    · cases h
    · split at h
      · exact List.mem_of_mem_head? h
      · split at h
        · rename_i q
          cases h
          obtain ⟨z, hz, e⟩ := List.any_eq_true.mp q
          rw [← eq_of_beq e]; exact hz
        · cases h
theorem right_len {nm : List (Str × Int)} : ∀ {r : List Str} {ns : List Int}, rightNums nm r = some ns → ns.length = r.length
  | [], ns, h => by rw [rightNums] at h; cases h; rfl
  | x :: r, ns, h => by
    rw [rightNums] at h
    cases e : numGet nm x with
    | none => rw [e] at h; cases h
    | some k =>
      rw [e] at h
      dsimp only at h
      cases e2 : rightNums nm r with
      | none => rw [e2] at h; cases h
      | some ks =>
        rw [e2] at h
        cases h
        rw [List.length_cons, List.length_cons, right_len e2]
theorem run_all {nm : List (Str × Int)} {tc : Int} {P : RuleD → Prop} : ∀ {ds : List DraftD} {acc rs : List RuleD}, rulesRun nm tc ds acc = some rs → (∀ R ∈ acc, P R) → (∀ D ∈ ds, ∀ n R, draftRule nm tc n D = some R → P R) → ∀ R ∈ rs, P R
  | [], acc, rs, h, ha, _ => by rw [rulesRun] at h; cases h; exact ha
  | D :: ds, acc, rs, h, ha, hd => by
    rw [rulesRun] at h
    cases e : draftRule nm tc acc.length D with
    | none => rw [e] at h; cases h
    | some R =>
      rw [e] at h
      refine run_all h (fun R' hR' => ?_) fun D' hD' => hd D' (.tail _ hD')
      rcases List.mem_append.mp hR' with q | q
      · exact ha R' q
      · rw [List.mem_singleton.mp q]; exact hd D (.head _) _ _ e
/-- what the readers want of a rule -/
noncomputable def RuleOk (S : MS) (R : RuleD) : Prop := (0 ≤ R.left ∧ R.left < (namesOf S).length ∧ R.right.length < 100) ∧ ∀ y, R.action = some y → PyData.strOk y = true
theorem num_ok {S : MS} {y : Str} (h : y ∈ S.ls) : 0 ≤ (numGet (numOf S) y).getD 0 ∧ (numGet (numOf S) y).getD 0 < (namesOf S).length := by
  obtain ⟨k, hk⟩ := numOf_left h
  rw [hk]
  exact numOf_lt hk
theorem draft_ok {S : MS} (Sd : SoundS S) {D : DraftD} (hD : D ∈ S.ds) {tc n : Int} {R : RuleD} (h : draftRule (numOf S) tc n D = some R) : RuleOk S R := by
  rw [draftRule] at h
  cases e : rightNums (numOf S) D.right with
  | none => rw [e] at h; cases h
  | some ns =>
    rw [e] at h
    dsimp only at h
    cases e2 : levelOf D ns (numOf S) tc with
    | none => rw [e2] at h; cases h
    | some k =>
      rw [e2] at h
      cases h
      have a := num_ok (Sd.left D hD)
      have b := right_len e
      have c := (Sd.right D hD).2
      exact ⟨⟨a.1, a.2, by dsimp only; omega⟩, Sd.act D hD⟩
theorem names_len (S : MS) : (namesOf S).length = 4 + S.ts.length + S.ls.length := by
  unfold namesOf own3
  simp only [List.length_append, List.length_cons, List.length_nil]
  omega
theorem first_ok {S : MS} {st : Int} : RuleOk S ⟨0, 3 + S.ts.length, [st, 0], 0, none, 0, 0⟩ := by
  refine ⟨⟨by dsimp only; omega, ?_, by dsimp only; simp⟩, fun _ h => (nomatch h)⟩
  rw [names_len]; dsimp only; omega
theorem put_mem {κ ν : Type} [DecidableEq κ] {nm : List (κ × ν)} {x : κ} {v : ν} {q : κ × ν} (h : q ∈ put nm x v) : q ∈ nm ∨ q.2 = v := by
  rw [put] at h
  split at h
  · obtain ⟨p, hp, e⟩ := List.mem_map.mp h
    split at e
    · rw [← e]; exact .inr rfl
    · rw [← e]; exact .inl hp
  · rcases List.mem_append.mp h with q | q
    · exact .inl q
    · rw [List.mem_singleton.mp q]; exact .inr rfl
theorem lvls_all {nm : List (Str × Int)} {P : Int × Str → Prop} : ∀ (lv : Lv) (acc : List (Int × (Int × Str))), (∀ q ∈ acc, P q.2) → (∀ q ∈ lv, P q.2) → ∀ q ∈ lv.foldl (fun acc q => put acc ((numGet nm q.1).getD 0) q.2) acc, P q.2
  | [], _, h, _ => h
  | l :: lv, acc, h, hl => lvls_all lv _ (fun q hq => (put_mem hq).elim (h q) fun e => e ▸ hl l (.head _)) fun q hq => hl q (.tail _ hq)
theorem lvls_len {nm : List (Str × Int)} : ∀ (lv : Lv) (acc : List (Int × (Int × Str))), (lv.foldl (fun acc q => put acc ((numGet nm q.1).getD 0) q.2) acc).length ≤ acc.length + lv.length
  | [], _ => Nat.le_refl _
  | l :: lv, acc => by
    have h1 := lvls_len (nm := nm) lv (put acc ((numGet nm l.1).getD 0) l.2)
    have h2 := put_keys acc ((numGet nm l.1).getD 0) l.2
    rw [List.foldl_cons, List.length_cons]
    omega
/-- data on a heap that holds what P says -/
noncomputable def DatOn (P : Mp) (v : Value) (d : PyData) : Prop := ∀ h : Heap, (∀ a o, P a o → h.get? a = some o) → ∃ as, Reads h v d as
theorem DatOn.mono {P P' : Mp} {v : Value} {d : PyData} (H : DatOn P v d) (k : ∀ a o, P a o → P' a o) : DatOn P' v d := fun h hk => H h fun a o e => hk a o (k a o e)
theorem dat_all {P : Mp} {vs : List Value} {ds : List PyData} (H : All2 (DatOn P) vs ds) (h : Heap) (hk : ∀ a o, P a o → h.get? a = some o) : ∃ as, ReadsAll h vs ds as := by
  induction H with
  | nil => exact ⟨_, .nil⟩
  | cons r _ ih =>
    obtain ⟨as, ra⟩ := r h hk
    obtain ⟨bs, rb⟩ := ih
    exact ⟨_, .cons ra rb⟩
theorem DatOn.tup {P : Mp} {a : Addr} {vs : List Value} {ds : List PyData} (e : P a (tupO vs)) (H : All2 (DatOn P) vs ds) : DatOn P (.ref a) (.tuple ds) := fun h hk => by
  obtain ⟨as, ra⟩ := dat_all H h hk
  exact ⟨_, .tuple (hk _ _ e) rfl rfl ra⟩
theorem DatOn.list {P : Mp} {a : Addr} {vs : List Value} {n : Nat} {ds : List PyData} (e : P a (listOf vs.toArray n)) (H : All2 (DatOn P) vs ds) : DatOn P (.ref a) (.list ds) := fun h hk => by
  obtain ⟨as, ra⟩ := dat_all H h hk
  exact ⟨_, .list (hk _ _ e) rfl rfl ra⟩
theorem DatOn.int {P : Mp} {i : Int} {t : Tok} : DatOn P (.int i t) (.int i) := fun _ _ => ⟨_, .int i t⟩
theorem DatOn.str {P : Mp} {x : Str} {t : Tok} : DatOn P (.str x t) (.str x) := fun _ _ => ⟨_, .str x t⟩
theorem DatOn.none {P : Mp} : DatOn P .none .none := fun _ _ => ⟨_, .none⟩
theorem DatOn.strs {P : Mp} {vs : List Value} {ss : List Str} (h : StrsAre vs ss) : All2 (DatOn P) vs (ss.map .str) := by
  induction h with
  | nil => exact .nil
  | cons x t _ ih => exact .cons .str ih
theorem DatOn.ints {P : Mp} {vs : List Value} {ns : List Int} (h : IntsAre vs ns) : All2 (DatOn P) vs (ns.map .int) := by
  induction h with
  | nil => exact .nil
  | cons x t _ ih => exact .cons .int ih
noncomputable def optSD : Option Str → PyData
  | none => .none
  | some x => .str x
noncomputable def optID : Option Int → PyData
  | none => .none
  | some x => .int x
theorem DatOn.optS {P : Mp} {v : Value} {o : Option Str} (h : OptS v o) : DatOn P v (optSD o) := by
  cases h
  · exact .none
  · exact .str
theorem DatOn.optI {P : Mp} {v : Value} {o : Option Int} (h : OptI v o) : DatOn P v (optID o) := by
  cases h
  · exact .none
  · exact .int
noncomputable def ruleDat (R : RuleD) : PyData := .tuple [.int R.left, .tuple (R.right.map .int), .int R.level, optSD R.action, .int R.before]
noncomputable def lvDat (ls : List (Int × (Int × Str))) (k : Int) : PyData := .tuple [.int k, match getL ls k with | some q => .tuple [.int q.1, .str q.2] | none => .none]
noncomputable def keysOf (ls : List (Int × (Int × Str))) : List Int := (ls.map (·.1)).mergeSort (fun a b => decide (a ≤ b))
noncomputable def toldDat (G : GramD) : PyData := .tuple [.tuple (G.names.map .str), .int G.tc, .tuple (G.rules.map ruleDat), .tuple ((keysOf G.levels).map (lvDat G.levels)), optID G.ex, .int G.start]
noncomputable def madeDat (S : MS) : PyData := match madeOf S with
  | none => .none
  | some G => .tuple [toldDat G, .list (G.rules.map fun R => .int R.line)]
/-- data that can be compared -/
noncomputable def FineD (n : Nat) (d : PyData) : Prop := d.canLay0 = true ∧ d.depth ≤ n
theorem FineD.all {n : Nat} {ds : List PyData} (h : ∀ d ∈ ds, FineD n d) : PyData.canLayAll0 ds = true ∧ PyData.depthAll ds ≤ n := by
  induction ds with
  | nil => simp [PyData.canLayAll0, PyData.depthAll]
  | cons d ds ih =>
    have h1 := h d (.head _)
    have h2 := ih fun e he => h e (.tail _ he)
    simp only [PyData.canLayAll0, PyData.depthAll, h1.1, h2.1, Bool.and_self, true_and]
    have a1 := h1.2
    have a2 := h2.2
    omega
theorem FineD.tup {n : Nat} {ds : List PyData} (h : ∀ d ∈ ds, FineD n d) : FineD (n + 1) (.tuple ds) := by
  have q := FineD.all h
  have q2 := q.2
  simp only [FineD, PyData.canLay0, PyData.depth, q.1, true_and]
  omega
theorem FineD.list {n : Nat} {ds : List PyData} (h : ∀ d ∈ ds, FineD n d) : FineD (n + 1) (.list ds) := by
  have q := FineD.all h
  have q2 := q.2
  simp only [FineD, PyData.canLay0, PyData.depth, q.1, true_and]
  omega
theorem FineD.int {n : Nat} {i : Int} : FineD n (.int i) := by simp [FineD, PyData.canLay0, PyData.depth]
theorem FineD.none {n : Nat} : FineD n .none := by simp [FineD, PyData.canLay0, PyData.depth]
theorem FineD.str {n : Nat} {x : Str} (h : PyData.strOk x = true) : FineD n (.str x) := by simp [FineD, PyData.canLay0, PyData.depth, h]
theorem FineD.le {n k : Nat} {d : PyData} (h : FineD n d) (e : n ≤ k) : FineD k d := ⟨h.1, Nat.le_trans h.2 e⟩
theorem two_mem {α : Type} {P : α → Prop} {a b : α} (h1 : P a) (h2 : P b) : ∀ x ∈ [a, b], P x := List.forall_mem_cons.mpr ⟨h1, List.forall_mem_cons.mpr ⟨h2, List.forall_mem_nil _⟩⟩
theorem five_mem {α : Type} {P : α → Prop} {a b c d e : α} (h1 : P a) (h2 : P b) (h3 : P c) (h4 : P d) (h5 : P e) : ∀ x ∈ [a, b, c, d, e], P x := List.forall_mem_cons.mpr ⟨h1, List.forall_mem_cons.mpr ⟨h2, List.forall_mem_cons.mpr ⟨h3, two_mem h4 h5⟩⟩⟩
theorem own_ok : ∀ y ∈ own3 ++ [Str.ofString "$accept"], PyData.strOk y = true := by decide +kernel
theorem names_ok {S : MS} (Sd : SoundS S) : ∀ y ∈ namesOf S, PyData.strOk y = true := by
  intro y hy
  unfold namesOf at hy
  simp only [List.mem_append] at hy
  rcases hy with ((hy | hy) | hy) | hy
  · exact own_ok y (List.mem_append.mpr (.inl hy))
  · exact (Sd.ts y hy).2
  · exact own_ok y (List.mem_append.mpr (.inr hy))
  · exact (Sd.ls y hy).2
theorem optS_fine {n : Nat} {o : Option Str} (h : ∀ y, o = some y → PyData.strOk y = true) : FineD n (optSD o) := by
  cases o with
  | none => exact .none
  | some y => exact .str (h y rfl)
theorem get_mem {κ ν : Type} [DecidableEq κ] {nm : List (κ × ν)} {k : κ} {u : ν} (h : getL nm k = some u) : ∃ q ∈ nm, q.2 = u := by
  rw [getL] at h
  cases e : nm.find? (fun q => decide (q.1 = k)) with
  | none => rw [e] at h; cases h
  | some q => rw [e] at h; cases h; exact ⟨q, List.mem_of_find?_eq_some e, rfl⟩
theorem lv_fine2 {n : Nat} {ls : List (Int × (Int × Str))} (h : ∀ q ∈ ls, PyData.strOk q.2.2 = true) (k : Int) : FineD (n + 2) (lvDat ls k) := by
  refine .tup (two_mem .int ?_)
  cases e : getL ls k with
  | none => exact .none
  | some u =>
    obtain ⟨q, hq, rfl⟩ := get_mem e
    exact .tup (two_mem .int (.str (h q hq)))
theorem map_fine {α : Type} {n : Nat} {f : α → PyData} {l : List α} (h : ∀ x ∈ l, FineD n (f x)) : ∀ d ∈ l.map f, FineD n d := by
  intro d hd
  obtain ⟨x, hx, rfl⟩ := List.mem_map.mp hd
  exact h x hx
theorem made_fine {S : MS} (Sd : SoundS S) : FineD 8 (madeDat S) := by
  unfold madeDat
  cases e : madeOf S with
  | none => exact .none
  | some G =>
    dsimp only
    rw [madeOf] at e
    cases e1 : startOf S with
    | none => rw [e1] at e; cases e
    | some x =>
      rw [e1] at e
      dsimp only at e
      generalize hr : rulesRun (numOf S) (3 + S.ts.length) S.ds [⟨0, 3 + S.ts.length, [(numGet (numOf S) x).getD 0, 0], 0, none, 0, 0⟩] = ro at e
      cases ro with
      | none => cases e
      | some rs =>
        cases e
        have hok : ∀ R ∈ rs, RuleOk S R := run_all hr (fun R hR => by rw [List.mem_singleton.mp hR]; exact first_ok) fun D hD n R hR => draft_ok Sd hD hR
        refine .tup (two_mem (.tup ?_) (.list (map_fine fun R _ => .int)))
        refine List.forall_mem_cons.mpr ⟨.tup (map_fine fun y hy => .str (names_ok Sd y hy)), five_mem .int (.tup (map_fine fun R hR => ?_)) (.tup (map_fine fun k _ => lv_fine2 (lvls_all (nm := numOf S) (P := fun u => PyData.strOk u.2 = true) S.lv [] (fun _ h => (nomatch h)) fun q hq => (Sd.lvn q hq).2.2) k)) ?_ .int⟩
        · exact .tup (five_mem .int (.tup (map_fine fun _ _ => .int)) .int (optS_fine (hok R hR).2) .int) (n := 4)
        · dsimp only
          cases S.ex with
          | none => exact .none
          | some i => exact .int
theorem made_same {S : MS} (Sd : SoundS S) : PyData.eqv (madeDat S) (madeDat S) = true := PySem.SeqAt.eqv_refl _ (made_fine Sd).1
section
variable {prog : Program} {w : World} {A : Around} {E : Value → Shared → Prop} {env : Env} {h₀ : Heap} {target : PySem.Expr} {body : List Stmt} {Q : Flow → Shared → Prop}
/-- a loop over the keys of a dict that the base holds -/
theorem loopD {K : Type} [DecidableEq K] {knd : _root_.PySem.KeyKind prog w K} {s : Shared} {l : Addr} {kvs : List (K × Value)} {m₀ : Str → Option Value} {nx₀ : List (Addr × Obj)} (J : Nat → (Str → Option Value) → List (Addr × Obj) → Prop)
    (hh : A.handled = none) (hl : h₀.DictOf knd l kvs) (lo : (l == sysModules) = false) (hE : PassesOwn (model prog w) A env E) (ht : ∀ v I, letOwnedTupleGo target (.ref I) v = pure ())
    (F : Fr h₀ env.locals s.heap m₀) (N : News h₀ env.locals s.heap nx₀) (hj : J 0 m₀ nx₀)
    (turn : ∀ i k x v m₁ nx h tk I oI, kvs[i]? = some (k, x) → knd.is k v = true → J i m₁ nx → (∀ q ∈ nx, q.1 ≠ I) → Fr h₀ env.locals h m₁ → News h₀ env.locals h ((I, oI) :: nx) →
      wpAny (model prog w) A (assign target env v) (fun _ s₂ => wpAny (model prog w) A (PySem.execs body env) (TPost h₀ env.locals (J (i + 1)) I oI { s with heap := h, toks := tk } Q) E s₂) E { s with heap := h, toks := tk })
    (done : ∀ m₁ nx h tk, J kvs.length m₁ nx → Fr h₀ env.locals h m₁ → News h₀ env.locals h nx → Q .next { s with heap := h, toks := tk }) :
    IterAt prog w A env target body Q E (.ref l) s := by
  obtain ⟨ep, hat⟩ := hl.dictAt
  have hat' : s.heap.DictAt knd l kvs ep := hat.at' fun o e => F.keep l o e
  have hls : l < h₀.objs.size := hat.lt_size
  obtain ⟨ol, hol⟩ : ∃ o, h₀.get? l = some o := let ⟨o, _, ho, _⟩ := hat; ⟨o, ho⟩
  have hne : l ≠ s.heap.objs.size := Nat.ne_of_lt (Nat.lt_trans (Nat.lt_of_lt_of_le hls F.above) F.ns.lt)
  refine wpAny_pyIter_dict lo hat' ?_
  have W := Walks.dictKeys (prog := prog) (w := w) (knd := knd) hh s.heap.objs.size l hne kvs ep
  have hI0 : h₀.get? s.heap.objs.size = none := none_at_size F
  refine loopW (s := { s with heap := s.heap.push { cls := .type "dict_keyiterator", data := .fields #[.ref l, .int 0 0, .int kvs.length 0, .int ep 0] } }) (oI₀ := { cls := .type "dict_keyiterator", data := .fields #[.ref l, .int 0 0, .int kvs.length 0, .int ep 0] }) J W hE (fun i v s Q E st hQ => go_of (ht := ht) hQ) (fun i h st => ?_) (F.push _) (fun p hp => ?_) (fun q hq e => ?_) ⟨⟨_, Heap.get?_push_size _ rfl, rfl, rfl⟩, hat'.push _⟩ hj (fun b hb hbI => ?_)
    (fun i v m₁ nx h tk oI hi hP hJ hn F1 N1 => by
      obtain ⟨k, x, hx, hk⟩ := hP
      exact turn i k x v m₁ nx h tk _ oI hx hk hJ hn F1 N1) (fun m₁ nx h tk hJ F1 N1 => done m₁ nx h tk hJ F1 N1)
  · obtain ⟨o, ho, _⟩ := st.1; exact ⟨o, ho⟩
  · rcases List.mem_cons.mp hp with rfl | hp
    · exact ⟨Heap.get?_push_size _ rfl, Nat.ne_of_gt F.ns.lt, hI0⟩
    · exact ⟨Heap.get?_push_of_some _ (N p hp).1, (N p hp).2⟩
  · exact absurd (Heap.lt_size (N q hq).1) (e ▸ Nat.lt_irrefl _)
  · rcases List.mem_cons.mp hb with rfl | hb
    · exact absurd rfl hbI
    · rw [List.mem_singleton.mp hb]; exact .inl ⟨ol, hol⟩
end
section
variable {prog : Program} {w : World} {A : Around} {E : Value → Shared → Prop} {s : Shared} {h₀ : Heap} {L D : Addr} {m : Str → Option Value} {news : List (Addr × Obj)} {n : Nat} {Q : Value → Shared → Prop}
theorem sort_any {vs : List Value} {ns : List Int} (F : Fr h₀ L s.heap m) (N : News h₀ L s.heap ((D, listOf vs.toArray n) :: news)) (hne : ∀ p ∈ news, p.1 ≠ D) (hI : IntsAre vs ns) (h64 : vs.length < 64)
    (h : ∀ h' out e ns', Fr h₀ L h' m → News h₀ L h' ((D, listOf (out : List Value).toArray e) :: news) → IntsAre out ns' → ns'.Perm ns → ns'.Pairwise (· ≤ ·) → Q .none { s with heap := h' }) :
    wpAny (model prog w) A (call (.builtin "list.sort") [.ref D]) Q E s := by
  have z := N _ (.head _)
  have ho : s.heap.get? D = some (seqObj "list" vs.toArray n) := z.1
  refine wpAny_call_entry PyProof.Rows.slot_list_sort ⟨_, z.1, rfl⟩ PyProof.Rows.entry_list_sort (list_sort_tree (n := n) (vs := vs) ho hI h64 fun out ns' hI' hp hP => ⟨.none, rfl, ?_⟩) (PyProof.Rows.args_list_sort _)
  have o1 := get?_update_seq ho (fun _ => #[])
  have N1 : News h₀ L (s.heap.update D (Obj.mapSeq fun _ => (#[] : Array Value))) _ := News.setIn (own := []) N (fun _ h => nomatch h) hne (Heap.SameBut.update ..) o1
  have F1 : Fr h₀ L (s.heap.update D (Obj.mapSeq fun _ => (#[] : Array Value))) m := F.change (Heap.SameBut.update ..) z.2.1 z.2.2
  have N2 := News.grown N1 fun _ _ e => Heap.get?_push_of_some (seqObj "tuple" vs.toArray 0) e
  have N3 := News.grown N2 fun _ _ e => Heap.get?_push_of_some (seqObj "list" #[] 0) e
  have F3 := (F1.push (seqObj "tuple" vs.toArray 0)).push (seqObj "list" #[] 0)
  have z3 := N3 _ (.head _)
  have o3 := get?_update_seq z3.1 (fun _ => out)
  have N4 := News.setIn (own := []) N3 (fun _ h => nomatch h) hne (Heap.SameBut.update ..) o3
  have F4 := F3.change (Heap.SameBut.update _ D (Obj.mapSeq fun _ => out)) z.2.1 z.2.2
  generalize (if (out.size == #[].size) = true then if (#[].size == vs.toArray.size) = true then n else n + 1 else (if (#[].size == vs.toArray.size) = true then n else n + 1) + 1) = e at N4
  have N5 : News h₀ L (sortedHeap s.heap D vs out) ((D, listOf out.toList.toArray e) :: news) := by rw [Array.toArray_toList]; exact N4
  exact h (sortedHeap s.heap D vs out) out.toList e ns' F4 N5 hI' hp hP
theorem sorted_ints {d : Addr} {kvs : List (Int × Value)} (hh : A.handled = none) (F : Fr h₀ L s.heap m) (N : News h₀ L s.heap news) (hD : s.heap.DictOf (intKind prog w) d kvs) (lo : (d == sysModules) = false) (hz : kvs.length < 64)
    (h : ∀ D h' tk out e, Fr h₀ L h' m → News h₀ L h' ((D, listOf (out : List Value).toArray e) :: news) → (∀ q ∈ news, q.1 < D) → IntsAre out ((kvs.map (·.1)).mergeSort fun a b => decide (a ≤ b)) → Q (.ref D) { s with heap := h', toks := tk }) :
    wpAny (model prog w) A (call (.builtin "sorted") [.ref d]) Q E s := by
  obtain ⟨ep, hat⟩ := hD.dictAt
  refine kdu_sorted (kdl_dict (knd := intKind prog w) (kvs := kvs) (ep := ep) lo) hh F N hat (by rw [sizeLine_eq]; omega) fun B h' tk vs F' N' l1 hl hv => ?_
  have hI : IntsAre vs (kvs.map (·.1)) := by
    clear h F' N' l1 hat hD
    induction vs generalizing kvs with
    | nil =>
      cases kvs with
      | nil => exact .nil
      | cons _ _ => cases hl
    | cons v vs ih =>
      cases kvs with
      | nil => cases hl
      | cons kv kvs =>
        obtain ⟨k, x, e, hk⟩ := hv 0 v rfl
        cases e
        obtain ⟨t, rfl⟩ := Value.isInt_shape hk
        exact .cons _ _ (ih (by simp only [List.length_cons] at hz; omega) (by simpa using hl) fun j u hu => by simpa using hv (j + 1) u (by simpa using hu))
  refine sort_any F' N' (fun p hp => Nat.ne_of_lt (l1 p hp)) hI (by omega) fun h2 out e ns' F2 N2 hO hp hP => ?_
  have e1 : ns' = (kvs.map (·.1)).mergeSort fun a b => decide (a ≤ b) := by
    refine lks_uniq (hp.trans (List.mergeSort_perm _ _).symm) hP ?_
    have := List.pairwise_mergeSort (le := fun (a b : Int) => decide (a ≤ b)) (fun a b c h1 h2 => by simp at *; omega) (fun a b => by simp; omega) (kvs.map (·.1))
    exact this.imp (by simp)
  subst e1
  exact h B h2 tk out e F2 N2 l1 hO
end
theorem words_B34 : True := by
  k_with "k_ne" =>
    (refine neN ?_; (try dsimp only); first | with_reducible assumption | with_reducible exact Ne.symm (by with_reducible assumption) | with_reducible exact Nat.ne_of_lt (by with_reducible assumption) | with_reducible exact Nat.ne_of_gt (by with_reducible assumption) | exact ne_l1 (by with_reducible assumption) (by kat_tups) | exact Ne.symm (ne_l1 (by with_reducible assumption) (by kat_tups)) | exact ne_mem (by with_reducible assumption) (by kat_tups) | exact Ne.symm (ne_mem (by with_reducible assumption) (by kat_tups)) | exact ne_l1s (by with_reducible assumption) (by kat_tups) | exact Ne.symm (ne_l1s (by with_reducible assumption) (by kat_tups)) | exact ne_lt2 (by with_reducible assumption) (by with_reducible assumption) (by kat_tups) | exact Ne.symm (ne_lt2 (by with_reducible assumption) (by with_reducible assumption) (by kat_tups)) | exact Anew.ne (by with_reducible assumption) (by kat_tups) | exact Ne.symm (Anew.ne (by with_reducible assumption) (by kat_tups)) | omega)
  k_with "k_all" =>
    first | exact List.forall_mem_nil _ | with_reducible assumption | exact tail_l1 (by with_reducible assumption) (by intro q hq; kat_tups) | exact AllNe.off (by with_reducible assumption) (by (repeat (first | exact List.Mem.head _ | refine List.Mem.tail _ ?_))) | (refine' List.forall_mem_cons.mpr ⟨?kaa, ?kab⟩; (case kaa => k_ne); (case kab => k_all)) | ((refine List.forall_mem_append.mpr (And.intro ?_ ?_)) <;> k_all)
  k_with "eval Tuple" =>
    (k_fold; walk_at "eval Tuple")
  k_with "eval List" =>
    (k_fold; walk_at "eval List")
  k_with "eval BinOp" =>
    (k_fold; walk_at "eval BinOp")
  k_with "eval Call" =>
    (k_fold; walk_at "eval Call")
  k_with "eval Subscript" =>
    (k_fold; walk_at "eval Subscript")
  k_with "execs cons" =>
    (k_fold; walk_at "execs cons")
  k_with "exec If" =>
    (k_fold; walk_at "exec If")
  k_with "exec Assign" =>
    (k_fold; walk_at "exec Assign")
  k_with "exec Return some" =>
    (k_fold; walk_at "exec Return some")
  k_with "exec Expr" =>
    (k_fold; walk_at "exec Expr")
  trivial
inductive RuleOn (w : World) (P : Mp) (v : Value) (R : RuleD) : Prop
  | mk (x d r k1 k2 k3 k4 k5 k6 k7 t1 t2 t4 t6 t7 av rs) : (v = .ref x) → (P x (instObj 80 d)) → (P d (dictOf (rattrs w k1 k2 k3 k4 k5 k6 k7 (.int R.number t1) (.int R.left t2) (.ref r) (.int R.level t4) av (.int R.line t6) (.int R.before t7)) 7)) → (P r (tupO (rs : List Value))) → (IntsAre rs R.right) → (OptS av R.action) → RuleOn w P v R
theorem RuleOn.mono {w : World} {P P' : Mp} {v : Value} {R : RuleD} (m : ∀ a o, P a o → P' a o) (H : RuleOn w P v R) : RuleOn w P' v R := by
  obtain ⟨x, d, r, k1, k2, k3, k4, k5, k6, k7, t1, t2, t4, t6, t7, av, rs, e, a, b, c, q1, q2⟩ := H
  exact ⟨x, d, r, k1, k2, k3, k4, k5, k6, k7, t1, t2, t4, t6, t7, av, rs, e, m _ _ a, m _ _ b, m _ _ c, q1, q2⟩
theorem RuleOn.inst {w : World} {h : Heap} {v : Value} {R : RuleD} (H : RuleOn w (inh h) v R) : ∃ x d r k1 k2 k3 k4 k5 k6 k7 t1 t2 t4 t6 t7 av rs, v = .ref x ∧ InstAt h x (instObj 80 d) 80 (some (dictOf (rattrs w k1 k2 k3 k4 k5 k6 k7 (.int R.number t1) (.int R.left t2) (.ref r) (.int R.level t4) av (.int R.line t6) (.int R.before t7)) 7)) ∧ h.IsTuple r (rs : List Value).toArray ∧ IntsAre rs R.right ∧ OptS av R.action := by
  obtain ⟨x, d, r, k1, k2, k3, k4, k5, k6, k7, t1, t2, t4, t6, t7, av, rs, e, a, b, c, q1, q2⟩ := H
  exact ⟨x, d, r, k1, k2, k3, k4, k5, k6, k7, t1, t2, t4, t6, t7, av, rs, e, ⟨a, rfl, rfl, b⟩, ⟨_, c, rfl, _, rfl⟩, q1, q2⟩
theorem InstAt_mono {g h : Heap} {x C : Addr} {ox : Obj} {od : Option Obj} (k : ∀ b o, h.get? b = some o → g.get? b = some o) (I : InstAt h x ox C od) : InstAt g x ox C od := by
  obtain ⟨a, b, c, d⟩ := I
  refine ⟨k _ _ a, b, c, ?_⟩
  revert d
  cases ox.dict with
  | none => cases od with
    | none => exact fun _ => True.intro
    | some o => exact fun f => f
  | some dx => cases od with
    | none => exact fun f => f
    | some o => exact fun e => k _ _ e
abbrev gattrs (w : World) (ks : Nat → Tok) (nv tv rv lv ev sv bv fv ov iv : Value) : List DictEntry :=
  [⟨PyData.keyHash w.params "names", .str "names" (ks 0), nv⟩, ⟨PyData.keyHash w.params "terminal_count", .str "terminal_count" (ks 1), tv⟩, ⟨PyData.keyHash w.params "rules", .str "rules" (ks 2), rv⟩, ⟨PyData.keyHash w.params "levels", .str "levels" (ks 3), lv⟩,
   ⟨PyData.keyHash w.params "expect", .str "expect" (ks 4), ev⟩, ⟨PyData.keyHash w.params "start", .str "start" (ks 5), sv⟩, ⟨PyData.keyHash w.params "by_left", .str "by_left" (ks 6), bv⟩, ⟨PyData.keyHash w.params "offsets", .str "offsets" (ks 7), fv⟩,
   ⟨PyData.keyHash w.params "owners", .str "owners" (ks 8), ov⟩, ⟨PyData.keyHash w.params "item_count", .str "item_count" (ks 9), iv⟩]
/-- lists of a tail: apart, and short -/
noncomputable def BL (k : Nat) (nd : List (Addr × Obj)) : Prop := (adr nd).Nodup ∧ ∀ q ∈ nd, ∃ (vs : List Value) (e : Nat), q.2 = listOf vs.toArray e ∧ vs.length ≤ k
noncomputable def InTail (ys : List Value) (nd : List (Addr × Obj)) : Prop := ∀ v ∈ ys, ∃ a o, v = .ref a ∧ (a, o) ∈ nd
theorem BL.nil {k : Nat} : BL k [] := ⟨List.nodup_nil, fun _ h => nomatch h⟩
theorem BL.cons {k : Nat} {nd : List (Addr × Obj)} {D : Addr} (h : BL k nd) (hn : ∀ p ∈ nd, p.1 ≠ D) : BL k ((D, listOf #[] 0) :: nd) := by
  refine ⟨List.nodup_cons.mpr ⟨fun z => ?_, h.1⟩, fun q hq => ?_⟩
  · obtain ⟨p, hp, e⟩ := List.mem_map.mp z
    exact hn p hp e
  · rcases List.mem_cons.mp hq with rfl | hq
    · exact ⟨[], 0, rfl, Nat.zero_le _⟩
    · exact h.2 q hq
theorem InTail.snoc {ys : List Value} {nd : List (Addr × Obj)} {D : Addr} {o : Obj} (h : InTail ys nd) : InTail (ys ++ [.ref D]) ((D, o) :: nd) := fun v hv => by
  rcases List.mem_append.mp hv with hv | hv
  · obtain ⟨a, o', e, hm⟩ := h v hv
    exact ⟨a, o', e, .tail _ hm⟩
  · rw [List.mem_singleton.mp hv]; exact ⟨D, o, rfl, .head _⟩
theorem adr_ne {nd nd' : List (Addr × Obj)} {a : Addr} (e : adr nd' = adr nd) (h : ∀ p ∈ nd, p.1 ≠ a) : ∀ p ∈ nd', p.1 ≠ a := fun p hp q => by
  have z : p.1 ∈ adr nd := e ▸ List.mem_map_of_mem hp
  obtain ⟨p', hp', e'⟩ := List.mem_map.mp z
  exact h p' hp' (e'.trans q)
theorem AllNe.of_off {fp : List Addr} {nd : List (Addr × Obj)} (h : ∀ a ∈ fp, ∀ p ∈ nd, p.1 ≠ a) : AllNe fp nd := by
  induction nd with
  | nil => exact True.intro
  | cons q r ih => exact ⟨fun a ha e => h a ha q (.head _) e.symm, ih fun a ha p hp => h a ha p (.tail _ hp)⟩
theorem AllNe.adr {fp : List Addr} {nd nd' : List (Addr × Obj)} (e : Mine.adr nd' = Mine.adr nd) (h : AllNe fp nd) : AllNe fp nd' := AllNe.of_off fun a ha => adr_ne e (h.off ha)
theorem InTail.adr {ys : List Value} {nd nd' : List (Addr × Obj)} (e : Mine.adr nd' = Mine.adr nd) (h : InTail ys nd) : InTail ys nd' := fun v hv => by
  obtain ⟨a, o, rfl, hm⟩ := h v hv
  have z : a ∈ Mine.adr nd' := e ▸ List.mem_map_of_mem (f := Prod.fst) hm
  obtain ⟨p, hp, rfl⟩ := List.mem_map.mp z
  exact ⟨_, p.2, rfl, hp⟩
theorem BL.le {k j : Nat} {nd : List (Addr × Obj)} (h : BL k nd) (e : k ≤ j) : BL j nd := ⟨h.1, fun q hq => by obtain ⟨vs, n, a, b⟩ := h.2 q hq; exact ⟨vs, n, a, Nat.le_trans b e⟩⟩
section
variable {prog : Program} {w : World} {A : Around} {E : Value → Shared → Prop} {hp : Heap} {gn : Array GenState} {dr : Drawn} {tk : Nat} {os : OsState} {g : Heap} {L a l : Addr} {m : Str → Option Value} {pre nd news : List (Addr × Obj)} {k n : Nat} {v : Value} {ys : List Value} {Q : Value → Shared → Prop}
theorem len_T {t : Addr} {vs : List Value} (ht : hp.IsTuple t vs.toArray) (hz : vs.length < 1000000) (h : Q (.int vs.length (tk + 1)) ⟨hp, gn, dr, tk + 1 + 1, os⟩) : wpAny (model prg w) A (call (.builtin "len") [.ref t]) Q E ⟨hp, gn, dr, tk, os⟩ :=
  len_tuple (s := ⟨hp, gn, dr, tk, os⟩) ht (by rw [List.size_toArray]; omega) (by rw [List.size_toArray]; exact h)
theorem append_tail {vs : List Value} {e : Nat} (F : Fr g L hp m) (N : News g L hp (pre ++ nd)) (hm : (a, listOf vs.toArray e) ∈ nd) (hB : BL k nd) (hl : vs.length ≤ k) (hpre : ∀ p ∈ pre, p.1 ≠ a) (hk : k < 10000)
    (h : ∀ h' nd', Fr g L h' m → News g L h' (pre ++ nd') → BL (k + 1) nd' → adr nd' = adr nd → Q .none ⟨h', gn, dr, tk, os⟩) : wpAny (model prg w) A (call (.builtin "list.append") [.ref a, v]) Q E ⟨hp, gn, dr, tk, os⟩ := by
  obtain ⟨n1, n2, rfl⟩ := List.append_of_mem hm
  have hnd := hB.1
  have e1 : adr (n1 ++ (a, listOf vs.toArray e) :: n2) = adr n1 ++ a :: adr n2 := by simp [adr]
  rw [e1] at hnd
  have hn1 : ∀ p ∈ n1, p.1 ≠ a := fun p hp q => (List.nodup_append.mp hnd).2.2 p.1 (List.mem_map_of_mem hp) a (.head _) q
  have hn2 : ∀ p ∈ n2, p.1 ≠ a := fun p hp q => (List.nodup_cons.mp (List.nodup_append.mp hnd).2.1).1 (q ▸ List.mem_map_of_mem hp)
  rw [← List.append_assoc] at N
  have z := N (a, listOf vs.toArray e) (List.mem_append_right _ (.head _))
  have hpn : ∀ p ∈ pre ++ n1, p.1 ≠ a := fun p hp => (List.mem_append.mp hp).elim (hpre p) (hn1 p)
  refine append_at (hsz := by rw [List.size_toArray, sizeLine_eq]; omega) z.1 fun h' hs ho' => ?_
  have N2 := news_set N hpn hn2 hs ho'
  rw [List.append_assoc] at N2
  refine h h' _ (F.change hs z.2.1 z.2.2) N2 ⟨?_, fun q hq => ?_⟩ ?_
  · have e2 : adr (n1 ++ (a, listOf (vs.toArray.push v) (e + 1)) :: n2) = adr n1 ++ a :: adr n2 := by simp [adr]
    rw [e2]; exact hnd
  · rcases List.mem_append.mp hq with hq | hq
    · obtain ⟨us, j, q1, q2⟩ := hB.2 q (List.mem_append_left _ hq); exact ⟨us, j, q1, Nat.le_succ_of_le q2⟩
    · rcases List.mem_cons.mp hq with rfl | hq
      · exact ⟨vs ++ [v], e + 1, by rw [List.push_toArray], by simp; exact hl⟩
      · obtain ⟨us, j, q1, q2⟩ := hB.2 q (List.mem_append_right _ (.tail _ hq)); exact ⟨us, j, q1, Nat.le_succ_of_le q2⟩
  · simp [adr]
theorem item_tail {value slice : PySem.Expr} {r : Int} {u : Tok} (N : News g L hp news) (hl : (l, listOf ys.toArray n) ∈ news) (h0 : 0 ≤ r) (h1 : r < ys.length) (hz : ys.length < 1000) (hIn : InTail ys nd) (hB : BL k nd)
    (h : ∀ a vs e, (a, listOf (vs : List Value).toArray e) ∈ nd → vs.length ≤ k → Q (.ref a) ⟨hp, gn, dr, tk, os⟩)
    (hs : subscripted slice false (.ref l) (.int r u) = operate [.ref l, .int r u] (getItem (.ref l) (.int r u)) := by with_unfolding_all rfl) :
    wpAny (model prg w) A (subscriptTail value slice (.ref l) (.int r u)) Q E ⟨hp, gn, dr, tk, os⟩ :=
  item_any8 (s := ⟨hp, gn, dr, tk, os⟩) N hl h0 h1 hz (fun v hv => by
    obtain ⟨a, o, rfl, hm⟩ := hIn v (List.mem_of_getElem? hv)
    obtain ⟨vs, e, ho, hl⟩ := hB.2 _ hm
    dsimp only at ho; subst ho
    exact h a vs e hm hl) hs
end
section
variable {w : World} {loose : List Str} {mean : ExcName → Option Value} {mg mb : Str → Option Value} {base : Heap}
theorem rule_told {h : Heap} {v : Value} {D : RuleD} {P : Mp} (hR : RuleOn w P v D) (hP : ∀ a o, P a o → h.get? a = some o) :
    Spec w loose mean mg mb base 173 [v] 2 h [] (fun u n => ∃ a r t2 t4 t7 av rs, u = .ref a ∧ n = [(a, tupO [.int D.left t2, .ref r, .int D.level t4, av, .int D.before t7])] ∧ P r (tupO (rs : List Value)) ∧ IntsAre rs D.right ∧ OptS av D.action) False := by
  obtain ⟨x, d, r, k1, k2, k3, k4, k5, k6, k7, t1, t2, t4, t6, t7, av, rs, rfl, hx, hd9, hT, hi, ha⟩ := hR
  have hI0 : InstAt h x (instObj 80 d) 80 (some (dictOf (rattrs w k1 k2 k3 k4 k5 k6 k7 (.int D.number t1) (.int D.left t2) (.ref r) (.int D.level t4) av (.int D.line t6) (.int D.before t7)) 7)) := ⟨hP _ _ hx, rfl, rfl, hP _ _ hd9⟩
  have hha : handedIn av = true := OptS.handed ha
  have fp := fp_nil (base := base) (h := h)
  ktr_enter
  have hI := InstAt_mono (g := g') (fun b o e => gk' b o e (fun z => nomatch z)) hI0
  k_steps
  exact leaveC (by k_asm) (by k_asm) fun kp nw => ret _ _ _ _ kp nw ⟨_, r, t2, t4, t7, av, rs, rfl, rfl, hT, hi, ha⟩
theorem byleft_turn {g h' : Heap} {L I C D l x dx nl : Addr} {m : Str → Option Value} {oI oC o1 o2 : Obj} {s₁ : Shared} {tk i : Nat} {ys : List Value} {its : Array Value} {nd : List (Addr × Obj)} (F : Fr g L h' m) (N : News g L h' ((l, listOf #[] 0) :: (I, oI) :: (C, oC) :: (D, LCg.lst ys) :: (x, o1) :: (dx, o2) :: nd))
    (l1 : ∀ p ∈ (I, oI) :: (C, oC) :: (D, LCg.lst ys) :: (x, o1) :: (dx, o2) :: nd, p.1 < l) (off : LCg.Off3 I C D ((x, o1) :: (dx, o2) :: nd)) (hyl : ys.length = i) (hIn : InTail ys nd) (hBL : BL 0 nd) (hAx : AllNe [x, dx] nd) (hl : g.IsList nl its) :
    LCg.CompEnd g L m s₁ I oI C oC D (LCg.lst ys) (LCg.SrcAt g nl its) (fun y nx' => ∃ nd, nx' = (x, o1) :: (dx, o2) :: nd ∧ (ys ++ [y]).length = i + 1 ∧ InTail (ys ++ [y]) nd ∧ BL 0 nd ∧ AllNe [x, dx] nd) (.ref l) { s₁ with heap := h', toks := tk } := by
  have e : ∀ {a : Addr} {o : Obj}, (a, o) ∈ (I, oI) :: (C, oC) :: (D, LCg.lst ys) :: (x, o1) :: (dx, o2) :: nd → @LT.lt Nat instLTNat a l := fun hm => l1 _ hm
  refine LCg.CompEnd.intro F N ((x, o1) :: (dx, o2) :: (l, listOf #[] 0) :: nd) (fun p hp => ?_) ⟨off.1, off.2.1, ⟨Nat.ne_of_gt (e (.head _)), Nat.ne_of_gt (e (.tail _ (.head _))), Nat.ne_of_gt (e (.tail _ (.tail _ (.head _))))⟩, off.2.2⟩ (.inl hl) ⟨(l, listOf #[] 0) :: nd, rfl, by simp [hyl], hIn.snoc, hBL.cons fun p hp => Nat.ne_of_lt (l1 p (.tail _ (.tail _ (.tail _ (.tail _ (.tail _ hp)))))), ⟨fun a ha => ?_, hAx⟩⟩
  · simp only [List.mem_cons] at hp ⊢
    rcases hp with h | h | h | h | h | h | h <;> simp [h]
  · simp only [List.mem_cons, List.not_mem_nil, or_false] at ha
    rcases ha with rfl | rfl
    · exact Nat.ne_of_lt (e (.tail _ (.tail _ (.tail _ (.head _)))))
    · exact Nat.ne_of_lt (e (.tail _ (.tail _ (.tail _ (.tail _ (.head _))))))
theorem off1_mem {D : Addr} : ∀ {l : List (Addr × Obj)}, LCg.Off1 D l → ∀ p ∈ l, p.1 ≠ D
  | [], _, _, h => nomatch h
  | _ :: _, x, p, h => by
    rcases List.mem_cons.mp h with rfl | h
    · exact x.1
    · exact off1_mem x.2 p h
theorem five_names {g h : Heap} {L a1 a2 : Addr} {o1 o2 o5 : Obj} {q3 q4 : Addr × Obj} {a5 : Addr} {l : List (Addr × Obj)} (_N : News g L h ((a1, o1) :: (a2, o2) :: q3 :: q4 :: (a5, o5) :: l)) : ∃ b1 b2 p5, b1 = a1 ∧ b2 = a2 ∧ p5 = o5 := ⟨_, _, _, rfl, rfl, rfl⟩
theorem third_obj2 {g h : Heap} {L a : Addr} {o : Obj} {q1 : Addr × Obj} {l : List (Addr × Obj)} (_N : News g L h (q1 :: (a, o) :: l)) : ∃ r, r = o := ⟨_, rfl⟩
theorem flat_len {α : Type} {n : Nat} {v : α} : (List.replicate ((n : Int) + 1).toNat [v]).flatten.length = n + 1 := by
  rw [List.length_flatten, List.map_replicate, List.sum_replicate_nat]
  simp only [List.length_cons, List.length_nil]
  omega
theorem drop3 {α : Type} {a b i : α} {l : List α} : ∀ p ∈ i :: l, p ∈ a :: b :: i :: l := fun p hp => .tail _ (.tail _ hp)
theorem drop3b {α : Type} {a b c : α} {l : List α} : ∀ p ∈ l, p ∈ a :: b :: c :: l := fun p hp => .tail _ (.tail _ (.tail _ hp))
theorem g_post {w : World} {x dx : Addr} {k0 k1 k2 k3 k4 k5 k6 k7 k8 k9 : Tok} {nv tv rv lv ev sv bv fv ov iv : Value} {nd : List (Addr × Obj)} :
    ∃ ks b f o i nd', (x, instObj 162 dx) :: (dx, dictOf [⟨PyData.keyHash w.params "names", .str "names" k0, nv⟩, ⟨PyData.keyHash w.params "terminal_count", .str "terminal_count" k1, tv⟩, ⟨PyData.keyHash w.params "rules", .str "rules" k2, rv⟩, ⟨PyData.keyHash w.params "levels", .str "levels" k3, lv⟩,
   ⟨PyData.keyHash w.params "expect", .str "expect" k4, ev⟩, ⟨PyData.keyHash w.params "start", .str "start" k5, sv⟩, ⟨PyData.keyHash w.params "by_left", .str "by_left" k6, bv⟩, ⟨PyData.keyHash w.params "offsets", .str "offsets" k7, fv⟩,
   ⟨PyData.keyHash w.params "owners", .str "owners" k8, ov⟩, ⟨PyData.keyHash w.params "item_count", .str "item_count" k9, iv⟩] 10) :: nd = (x, instObj 162 dx) :: (dx, dictOf (gattrs w ks nv tv rv lv ev sv b f o i) 10) :: nd' :=
  ⟨fun n => [k0, k1, k2, k3, k4, k5, k6, k7, k8, k9].getD n 0, bv, fv, ov, iv, nd, rfl⟩
theorem words_B34b : True := by
  k_with "subscriptTail" => ((try dsimp only); (with_reducible show wpAny _ _ (subscriptTail _ _ (Value.ref _) (Value.int _ _)) _ _ _); k_dflt (refine' item_tail ?itN ?itm ?it0 ?it1 ?itz hI2 hB2 ?_; (case itN => k_asm); (case itm => mem_news); (case it0 => with_reducible assumption); (case it1 => omega); (case itz => omega)); intro a9 vs9 e9 hm9 hl9)
  k_with "getMethod ref" => ((with_reducible show wpAny _ _ (getMethod (Value.ref _) (PySem.Str.ofString "append") _) _ _ _); k_dflt (refine' listMethod_K ?lmN ?lmm PySem.F.slot_list_append PySem.F.type_list_append ?_; (case lmN => k_asm); (case lmm => mem_news)))
  k_with "call builtin:list.append" => ((try dsimp only [List.cons_append, List.nil_append]); k_dflt (refine' append_tail (pre := [_, _, _, _, _, _]) ?atF ?atN hm9 hB2 hl9 ?atp ?atk ?_; (case atF => k_asm); (case atN => k_asm); (case atp => (refine List.forall_mem_cons.mpr ⟨?_, List.forall_mem_cons.mpr ⟨?_, List.forall_mem_cons.mpr ⟨?_, List.forall_mem_cons.mpr ⟨?_, List.forall_mem_cons.mpr ⟨?_, List.forall_mem_cons.mpr ⟨?_, List.forall_mem_nil _⟩⟩⟩⟩⟩⟩ <;> exact hq9 hm9 _ (by repeat (first | exact List.Mem.head _ | refine List.Mem.tail _ ?_)))); (case atk => omega)); intro h' nd3 F' N' hB3 hE3; dsimp only [List.cons_append, List.nil_append] at N'; (have hA7 := AllNe.adr hE3 hA6); (have hI3 := InTail.adr hE3 hI2))
  k_with "k_all" => (refine AllNe.off (by with_reducible assumption) ?_; (repeat (first | exact List.Mem.head _ | refine List.Mem.tail _ ?_)); done)
  k_with "call builtin:len" => ((with_reducible show wpAny _ _ (call (Value.builtin "len") [Value.ref _]) _ _ _); k_dflt (refine' len_L ?ll ?lz ?_; (case ll => (refine' isL ?lN ?lm; (case lN => k_asm); (case lm => mem_news))); (case lz => omega); k_whole))
  k_with "call builtin:len" => ((try dsimp only); (with_reducible show wpAny _ _ (call (Value.builtin "len") [Value.ref _]) _ _ _); k_dflt (refine' len_T ?ll ?lz ?_; (case ll => exact IsTup_Fr (by k_asm) (by with_reducible assumption)); (case lz => omega); k_whole))
  k_with "call builtin:list.extend" => ((try dsimp only [List.cons_append, List.nil_append]); (with_reducible show wpAny _ _ (call (Value.builtin _) [Value.ref _, Value.ref _]) _ _ _); k_dflt (refine' extend_L ?xeF ?xeN ?xeb ?xeU ?xez ?xey ?_; (case xeF => k_asm); (case xeN => k_asm); (case xeb => mem_news); (case xeU => k_upd); (case xez => (rw [flat_len]; omega)); (case xey => (rw [flat_len]; omega))); intro h' F' N')
  trivial
theorem off_two {a x dx : Addr} {o1 o2 : Obj} (n : @LT.lt Nat instLTNat a dx) (l : @LT.lt Nat instLTNat dx x) : a ∉ adr [(x, o1), (dx, o2)] := by
  intro z
  simp only [adr, List.map_cons, List.map_nil, List.mem_cons, List.not_mem_nil, or_false] at z
  rcases z with z | z
  · rw [z] at n; exact absurd (Nat.lt_trans n l) (Nat.lt_irrefl _)
  · rw [z] at n; exact absurd n (Nat.lt_irrefl _)
inductive GJ (x dx D ow of : Addr) (gd9 : Obj) (ys : List Value) (bm : Str → Option Value) (i : Nat) (mm : Str → Option Value) (nx : List (Addr × Obj)) : Prop
  | mk {fv : List Value} {fe : Nat} {ov : List Value} {oe : Nat} {nd2 : List (Addr × Obj)} : nx = (ow, listOf ov.toArray oe) :: (of, listOf fv.toArray fe) :: (D, listOf ys.toArray ys.length) :: (x, instObj 162 dx) :: (dx, gd9) :: nd2 → fv.length = i → ov.length ≤ 101 * i → BL i nd2 → InTail ys nd2 → AllNe [ow, of, D, x, dx] nd2 →
    (∀ y, y ≠ Str.ofString "rule" → mm y = bm y) → GJ x dx D ow of gd9 ys bm i mm nx
theorem five_off {a b c d e I : Addr} {o1 o2 o3 o4 o5 p1 p2 p3 p4 p5 : Obj} {nd nd' : List (Addr × Obj)} (h : ∀ q ∈ (a, o1) :: (b, o2) :: (c, o3) :: (d, o4) :: (e, o5) :: nd, @Ne Nat q.1 I) (h' : ∀ q ∈ nd', q.1 ≠ I) : ∀ q ∈ (a, p1) :: (b, p2) :: (c, p3) :: (d, p4) :: (e, p5) :: nd', q.1 ≠ I :=
  List.forall_mem_cons.mpr ⟨h (a, o1) (.head _), List.forall_mem_cons.mpr ⟨h (b, o2) (.tail _ (.head _)), List.forall_mem_cons.mpr ⟨h (c, o3) (.tail _ (.tail _ (.head _))), List.forall_mem_cons.mpr ⟨h (d, o4) (.tail _ (.tail _ (.tail _ (.head _)))), List.forall_mem_cons.mpr ⟨h (e, o5) (.tail _ (.tail _ (.tail _ (.tail _ (.head _))))), h'⟩⟩⟩⟩⟩
theorem GJ.elim {x dx D ow of : Addr} {gd9 : Obj} {ys : List Value} {bm : Str → Option Value} {i : Nat} {mm : Str → Option Value} {nx : List (Addr × Obj)} {g h : Heap} {L I : Addr} {oI : Obj} (H : GJ x dx D ow of gd9 ys bm i mm nx) (F : Fr g L h mm) (N : News g L h ((I, oI) :: nx)) (hnx : ∀ q ∈ nx, q.1 ≠ I) {P : Prop}
    (k : ∀ fv fe ov oe nd2 a0, let mp : Str → Option Value := fun y => if y = Str.ofString "rule" then a0 else bm y
      let nx' : List (Addr × Obj) := (ow, listOf (ov : List Value).toArray oe) :: (of, listOf (fv : List Value).toArray fe) :: (D, listOf ys.toArray ys.length) :: (x, instObj 162 dx) :: (dx, gd9) :: nd2
      let nw : List (Addr × Obj) := (I, oI) :: nx'
      Fr g L h mp → News g L h nw → (∀ q ∈ nx', @Ne Nat q.1 I) → fv.length = i → ov.length ≤ 101 * i → BL i nd2 → InTail ys nd2 → AllNe [I, ow, of, D, x, dx] nd2 → P) : P := by
  obtain ⟨rfl, a1, a2, a3, a4, a5, hm⟩ := H
  rw [mapE1 hm] at F
  exact k _ _ _ _ _ _ F N hnx a1 a2 a3 a4 (AllNe.of_off (List.forall_mem_cons.mpr ⟨fun p hp => hnx p (.tail _ (.tail _ (.tail _ (.tail _ (.tail _ hp))))), fun a ha => a5.off ha⟩))
theorem GJ.elimD {x dx D ow of : Addr} {gd9 : Obj} {ys : List Value} {bm : Str → Option Value} {i : Nat} {mm : Str → Option Value} {nx : List (Addr × Obj)} {g h : Heap} {L : Addr} (H : GJ x dx D ow of gd9 ys bm i mm nx) (F : Fr g L h mm) (N : News g L h nx) {P : Prop}
    (k : ∀ fv fe ov oe nd2 a0, let mp : Str → Option Value := fun y => if y = Str.ofString "rule" then a0 else bm y
      let nw : List (Addr × Obj) := (ow, listOf (ov : List Value).toArray oe) :: (of, listOf (fv : List Value).toArray fe) :: (D, listOf ys.toArray ys.length) :: (x, instObj 162 dx) :: (dx, gd9) :: nd2
      Fr g L h mp → News g L h nw → ov.length ≤ 101 * i → AllNe [ow, of, D, x, dx] nd2 → P) : P := by
  obtain ⟨rfl, a1, a2, a3, a4, a5, hm⟩ := H
  rw [mapE1 hm] at F
  exact k _ _ _ _ _ _ F N a2 a5
theorem inst_at {w : World} {g : Heap} {rv : List Value} {rs : List RuleD} {i : Nat} {v : Value} (hR : All2 (RuleOn w (inh g)) rv rs) (hv : rv[i]? = some v) {n : Nat} (hok : ∀ R ∈ rs, 0 ≤ R.left ∧ R.left < n ∧ R.right.length < 100) {P : Prop}
    (k : ∀ (R1 : RuleD) x1 d1 r1 k1 k2 k3 k4 k5 k6 k7 t1 t2 t4 t6 t7 av vs1, v = .ref x1 → InstAt g x1 (instObj 80 d1) 80 (some (dictOf (rattrs w k1 k2 k3 k4 k5 k6 k7 (.int R1.number t1) (.int R1.left t2) (.ref r1) (.int R1.level t4) av (.int R1.line t6) (.int R1.before t7)) 7)) → g.IsTuple r1 (vs1 : List Value).toArray → 0 ≤ R1.left → R1.left < n → vs1.length < 100 → i < rv.length → P) : P := by
  obtain ⟨R1, hRi, hRo⟩ := hR.at i v hv
  obtain ⟨x1, d1, r1, k1, k2, k3, k4, k5, k6, k7, t1, t2, t4, t6, t7, av, vs1, rfl, hI1, hT1, hi1, ha1⟩ := hRo.inst
  obtain ⟨c0, c1, c2⟩ := hok R1 (List.mem_of_getElem? hRi)
  exact k R1 x1 d1 r1 k1 k2 k3 k4 k5 k6 k7 t1 t2 t4 t6 t7 av vs1 rfl hI1 hT1 c0 c1 (by rw [hi1.length]; exact c2) (List.getElem?_eq_some_iff.mp hv).1
theorem g_init {h : Heap} {x dx nl rl ld : Addr} {nv rv : List Value} {rs : List RuleD} {tc st : Int} {tt t9 : Tok} {ex : Value} {eo : Option Int} (hex : OptI ex eo) (l : @LT.lt Nat instLTNat dx x) (hn : h.IsList nl nv.toArray) (hnl : @LT.lt Nat instLTNat nl dx) (hnz : nv.length < 900) (hr : h.IsList rl rv.toArray) (hrl : @LT.lt Nat instLTNat rl dx) (hrz : rv.length < 900) (hR : All2 (RuleOn w (fun a o => h.get? a = some o ∧ @LT.lt Nat instLTNat a dx)) rv rs) (hok : ∀ R ∈ rs, 0 ≤ R.left ∧ R.left < nv.length ∧ R.right.length < 100) :
    FP base h [(x, instObj 162 dx), (dx, dictOf [] 0)] → Spec w loose mean mg mb base 96 [.ref x, .ref nl, .int tc tt, .ref rl, .ref ld, ex, .int st t9] 4 h [(x, instObj 162 dx), (dx, dictOf [] 0)]
      (fun v n => v = .none ∧ ∃ ks b f o i nd, n = (x, instObj 162 dx) :: (dx, dictOf (gattrs w ks (.ref nl) (.int tc tt) (.ref rl) (.ref ld) ex (.int st t9) b f o i) 10) :: nd) False := by
  intro fp
  ktr_enter
  have hnb : ∀ {a : Addr} {o : Obj}, s.heap.get? a = some o → @LT.lt Nat instLTNat a dx → g'.get? a = some o := fun e n => gk' _ _ e (off_two n l)
  have hn' : g'.IsList nl nv.toArray := hn.at fun o e => hnb e hnl
  have hr' : g'.IsList rl rv.toArray := hr.at fun o e => hnb e hrl
  have hR' : All2 (RuleOn w (inh g')) rv rs := hR.mono fun _ _ => RuleOn.mono fun a o e => hnb e.1 e.2
  k_steps
  obtain ⟨gd6, hgd6⟩ := third_obj2 (by k_asm)
  refine LCg.CompSrc.base (by exact rfl) (by k_asm) (by k_asm) hn' (by rw [sizeLine_eq, List.size_toArray]; omega) ?_
  intro g8
  refine compRestJ (n := nv.toArray.size) (fun i ys nx => ∃ nd, nx = (x, instObj 162 dx) :: (dx, gd6) :: nd ∧ ys.length = i ∧ InTail ys nd ∧ BL 0 nd ∧ AllNe [x, dx] nd) ?turn ?done nv.toArray.size 0 [] _ (by omega) ⟨[], by rw [hgd6], rfl, (fun _ h => nomatch h), BL.nil, True.intro⟩
  case turn =>
    intro i v ys nx I oI C oC D m₂ h tk E' hi hP hJ hC hx F N off ne
    refine hideC fun Qt hQt => ?_
    obtain ⟨nd, rfl, hyl, hIn, hBL, hAx⟩ := hJ
    k_steps
    refine hQt _ _ ?_
    exact byleft_turn (by k_asm) (by k_asm) (by with_reducible assumption) off hyl hIn hBL hAx hn'
  case done =>
    rintro ys nx ⟨nd, rfl, hyl, hIn, hBL, hAx⟩
    subst hgd6
    intro D h' tk' F' N' o1
    have hA1 := hAx
    dsimp only [LCg.lst] at N'
    have n1 : @Ne Nat x D := o1.1
    have n2 : @Ne Nat dx D := o1.2.1
    have n3 : ∀ p ∈ nd, p.1 ≠ D := off1_mem o1.2.2
    have n4 : ∀ p ∈ nd, p.1 ≠ dx := fun p hp e => hAx.all p hp (by rw [e]; exact .tail _ (.head _))
    k_steps
    obtain ⟨ow, of, gd9, how, hof, hg9⟩ := five_names (by k_asm)
    subst how hof
    have hAll : AllNe [ow, of, D, x, dx] nd := AllNe.of_off (by
      refine List.forall_mem_cons.mpr ⟨by k_all, List.forall_mem_cons.mpr ⟨by k_all, List.forall_mem_cons.mpr ⟨n3, List.forall_mem_cons.mpr ⟨hAx.off (.head _), List.forall_mem_cons.mpr ⟨n4, List.forall_mem_nil _⟩⟩⟩⟩⟩)
    have p1 : @Ne Nat of ow := by k_ne
    have p2 : @Ne Nat D ow := by k_ne
    have p3 : @Ne Nat x ow := by k_ne
    have p4 : @Ne Nat dx ow := by k_ne
    have p5 : @Ne Nat D of := by k_ne
    have p6 : @Ne Nat x of := by k_ne
    have p7 : @Ne Nat dx of := by k_ne
    refine loopB (GJ x dx D ow of gd9 ys fun y => List.lookup y [(Str.ofString "start", Value.int st t9), (Str.ofString "expect", ex), (Str.ofString "levels", Value.ref ld), (Str.ofString "rules", Value.ref rl), (Str.ofString "terminal_count", Value.int tc tt), (Str.ofString "names", Value.ref nl), (Str.ofString "self", Value.ref x)]) (by exact rfl) hr' (by passes_own) (.inl fun _ _ => rfl) (by k_asm) (by k_asm) (.mk (fv := []) (fe := 0) (ov := []) (oe := 0) (nd2 := nd) (by rw [hg9]) rfl (Nat.le_refl _) hBL hIn hAll fun _ _ => rfl) ?turn2 ?done2
    case turn2 =>
      intro i v m1 nx h5 tk5 I oI hvi hJ hnx F5 N5
      refine hideT fun Qt hQt => ?_
      have hyl' : ys.length = nv.length := by rw [hyl, List.size_toArray]
      refine inst_at hR' hvi hok ?_
      intro R1 x1 d1 r1 k1 k2 k3 k4 k5 k6 k7 t1 t2 t4 t6 t7 av vs1 hv1 hI1 hT1 c0 c1 c2 hiR
      subst hv1
      subst hg9
      refine hJ.elim F5 N5 hnx ?_
      clear hJ F5 N5 hnx
      intro fv fe ov oe nd2 a0 mp nx5 nw5 F' N' hnI hfl hol hB2 hI2 hA6
      have hq9 : ∀ {a : Addr} {o : Obj}, (a, o) ∈ nd2 → ∀ b ∈ [I, ow, of, D, x, dx], b ≠ a := fun hm b hb => (hA6.off hb _ hm).symm
      k_steps
      refine hQt _ _ ?_
      show TEnd _ _ _ _ _ _ _
      refine tEnd (by k_asm) (News.subl (by k_asm) drop3) ?_ (.mk (nd2 := nd3) rfl (by rw [List.length_append, hfl]; rfl) (by rw [List.length_append, flat_len]; omega) hB3 hI3 (AllNe.of_off fun a ha => hA7.off (.tail _ ha)) (fun y hy => by simp +zetaDelta only [if_neg hy]))
      exact five_off hnI (hA7.off (.head _))
    case done2 =>
      intro m1 nx h6 tk6 hJ F6 N6
      subst hg9
      refine hJ.elimD F6 N6 ?_
      clear hJ F6 N6
      intro fv fe ov oe nd2 a0 mp nw5 F' N' hol hA2
      k_steps
      try dsimp only
      exact leaveC (by k_asm) (by k_asm) fun kp nw => ret _ _ _ _ kp (nw.sub drop3b) ⟨rfl, g_post⟩
end
theorem words_B35 : True := by
  k_with "top_name" =>
    (
      intro frs dp un gd s R hs G hap hd hu ret err
      obtain ⟨hp0, gn, dr, tk0, os⟩ := s
      dsimp only at hs
      subst hs
      have X := G.X
      have T := G.T
      k_dflt (
        refine' enterC G _ ?k1 hap ?k3 ?k4 ?k5 ?k6 ?k7 ?k8 ?_ ?c2 ?c3 ?c4
        (case k3 => k_is)
        (case k4 => k_is)
        (case k1 => assumption)
        (case k5 => omega)
        (case k6 => exact BindsTo.of_eq rfl)
        (case k7 => exact rfl)
        (case k8 => decide +kernel)
        (case c2 => exact rfl)
        (case c3 => exact rfl)
        (case c4 => exact rfl)
        k_whole
        intro g' L' h' tk' cells' gk' F' N' Y' B' X' T' l1
        dsimp only at F' N' Y'
        k_cells Y'
        (try simp only [List.cons_append, List.nil_append] at N')
        (try dsimp only)
        (try k_fold)))
  trivial
noncomputable def LvV (P : Mp) (v : Value) (q : Int × Str) : Prop := ∃ a t1 t2, v = .ref a ∧ P a (tupO [.int q.1 t1, .str q.2 t2])
inductive GramOn (w : World) (P : Mp) (v : Value) (G : GramD) : Prop
  | mk (x d nl rl ld ks b f o i tt t9 ex nv ne rv re lo lkvs) : (v = .ref x) → (P x (instObj 162 d)) → (P d (dictOf (gattrs w ks (.ref nl) (.int G.tc tt) (.ref rl) (.ref ld) ex (.int G.start t9) b f o i) 10)) → (P nl (listOf (nv : List Value).toArray ne)) → (StrsAre nv G.names) → (P rl (listOf (rv : List Value).toArray re)) → (All2 (RuleOn w P) rv G.rules) → (P ld lo) → (lo.IsDictOf (intKind prg w) lkvs) → ((ld == sysModules) = false) → (KvOn (LvV P) lkvs G.levels) → (OptI ex G.ex) → GramOn w P v G
section
variable {w : World} {loose : List Str} {mean : ExcName → Option Value} {mg mb : Str → Option Value} {base : Heap}
variable {h : Heap} {m : MA} {S : MS} {lct mct : Tok} {st ex : Value} {ts : List Value} {lo : Obj} {ds ls : List Value} {kvs : List (Str × Value)} {PP : Mp}
theorem own_list {A : Around} {E : Value → Shared → Prop} {hp : Heap} {gn : Array GenState} {dr : Drawn} {tk : Nat} {os : OsState} {h₀ : Heap} {L : Addr} {mm : Str → Option Value} {news : List (Addr × Obj)} {Q : Value → Shared → Prop} (X : (frag.heap_1 w.params).In hp) (F : Fr h₀ L hp mm) (N : News h₀ L hp news)
    (h : ∀ D c h' vs0, StrsAre vs0 own3 → vs0.length = 3 → Fr h₀ L h' mm → News h₀ L h' ((D, listOf (vs0 : List Value).toArray c) :: news) → (∀ q ∈ news, q.1 < D) → Q (.ref D) ⟨h', gn, dr, tk, os⟩) : wpAny (model prg w) A (call (.type "list") [.ref 62]) Q E ⟨hp, gn, dr, tk, os⟩ := by
  have h9 := X 62 _ (by k_dflt k_is)
  exact list_copyKT (s := ⟨hp, gn, dr, tk, os⟩) F N ⟨_, h9, rfl, _, rfl⟩ (fun D c h' F' N' l1 => h D c h' _ (.cons _ _ (.cons _ _ (.cons _ _ .nil))) rfl F' N' l1) (by rw [sizeLine_eq]; decide)
theorem drop_2 {α : Type} {a b : α} {l : List α} : ∀ p ∈ a :: l, p ∈ a :: b :: l := fun p hp => by
  rcases List.mem_cons.mp hp with rfl | hp
  · exact .head _
  · exact .tail _ (.tail _ hp)
theorem drop_23 {α : Type} {a b c : α} {l : List α} : ∀ p ∈ a :: l, p ∈ a :: b :: c :: l := fun p hp => by
  rcases List.mem_cons.mp hp with rfl | hp
  · exact .head _
  · exact .tail _ (.tail _ (.tail _ hp))
section
variable {A : Around} {E : Value → Shared → Prop} {hp : Heap} {gn : Array GenState} {dr : Drawn} {tk : Nat} {os : OsState} {g : Heap} {L a b : Addr} {m : Str → Option Value} {news : List (Addr × Obj)} {us vs : List Value} {n n2 : Nat} {Q : Value → Shared → Prop}
theorem add_R (F : Fr g L hp m) (N : News g L hp ((a, listOf us.toArray n) :: news)) (hb : hp.IsList b vs.toArray) (hz : us.length + vs.length < 100000)
    (h : ∀ D h', Fr g L h' m → News g L h' ((D, listOf (us ++ vs).toArray 0) :: news) → (∀ p ∈ news, p.1 < D) → Q (.ref D) ⟨h', gn, dr, tk, os⟩) : wpAny (model prg w) A (binaryOp .Add (.ref a) (.ref b)) Q E ⟨hp, gn, dr, tk, os⟩ :=
  kmk_add_lit (s := ⟨hp, gn, dr, tk, os⟩) F N (isL N (.head _)) hb rfl (fun D h' F' N' l1 => h D h' F' (News.subl N' drop_2) fun p hp => l1 p (.tail _ hp)) (by rw [sizeLine_eq]; show us.length + vs.length ≤ _; omega)
theorem add_T (F : Fr g L hp m) (N : News g L hp ((b, listOf vs.toArray n2) :: (a, listOf us.toArray n) :: news)) (hz : us.length + vs.length < 100000)
    (h : ∀ D h', Fr g L h' m → News g L h' ((D, listOf (us ++ vs).toArray 0) :: news) → (∀ p ∈ news, p.1 < D) → Q (.ref D) ⟨h', gn, dr, tk, os⟩) : wpAny (model prg w) A (binaryOp .Add (.ref a) (.ref b)) Q E ⟨hp, gn, dr, tk, os⟩ :=
  kmk_add_lit (s := ⟨hp, gn, dr, tk, os⟩) F N (isL N (.tail _ (.head _))) (isL N (.head _)) rfl (fun D h' F' N' l1 => h D h' F' (News.subl N' drop_23) fun p hp => l1 p (.tail _ (.tail _ hp))) (by rw [sizeLine_eq]; show us.length + vs.length ≤ _; omega)
end
theorem Fr.map {g h : Heap} {L : Addr} {m m' : Str → Option Value} (F : Fr g L h m) (e : m = m') : Fr g L h m' := e ▸ F
theorem made_clean {C : Prop} {g h : Heap} {L D d mx r : Addr} {f0 : Str → Option Value} {z : Int} {t t2 ta t3 t4 t5 : Tok} {x : Str} {vs0 ts ls nl : List Value} {n : Nat} {o oc : Obj} {S : MS}
    (en : nl = vs0 ++ ts ++ [.str (Str.ofString "$accept") ta] ++ ls) (F : Fr g L h fun y => if y = Str.ofString "names" then some (.ref D) else if y = Str.ofString "terminal_count" then some (.int z t) else if y = Str.ofString "start" then some (.str x t2) else f0 y) (hself : f0 (Str.ofString "self") = some (.ref mx))
    (N : News g L h [(d, o), (D, listOf nl.toArray n), (L + 1, oc)]) (hs0 : StrsAre vs0 own3) (sT : StrsAre ts S.ts) (sL : StrsAre ls S.ls)
    (l1 : @LT.lt Nat instLTNat D d) (l1' : @LT.lt Nat instLTNat (L + 1) d) (l2 : @LT.lt Nat instLTNat (L + 1) D) (R : IsRange h r 0 ((nl.length : Nat) : Int) 1 t3 t4 t5) (ho : o.IsDictOf (_root_.PySem.strKind prg w) []) (hc : oc.data = .cell (some (.ref d))) (hs : (d == sysModules) = false)
    (k : ∀ (M0 : Str → Option Value) (tcT stT : Tok) (nv : List Value) (D d : Addr) (o oc : Obj), Fr g L h (fun y => if y = Str.ofString "names" then some (.ref D) else if y = Str.ofString "terminal_count" then some (.int z tcT) else if y = Str.ofString "start" then some (.str x stT) else if y = Str.ofString "self" then some (.ref mx) else M0 y) →
      News g L h [(d, o), (D, listOf nv.toArray n), (L + 1, oc)] → StrsAre nv (namesOf S) → @Ne Nat d D → @Ne Nat d (L + 1) → @Ne Nat D (L + 1) → IsRange h r 0 ((nv.length : Nat) : Int) 1 t3 t4 t5 → o.IsDictOf (_root_.PySem.strKind prg w) [] → oc.data = .cell (some (.ref d)) → (d == sysModules) = false → C) : C :=
  k f0 t t2 nl D d o oc (Fr.map F (by
    funext y
    by_cases h1 : y = Str.ofString "self"
    · subst h1; rw [if_pos (rfl : Str.ofString "self" = Str.ofString "self"), hself]
    · rw [if_neg h1])) N (by rw [en]; unfold namesOf; exact ((hs0.append' sT).append' (.cons _ _ .nil)).append' sL) (Nat.ne_of_gt l1) (Nat.ne_of_gt l1') (Nat.ne_of_gt l2) R ho hc hs
theorem item_at {prog : Program} {A : Around} {E : Value → Shared → Prop} {s : Shared} {g : Heap} {L l : Addr} {news : List (Addr × Obj)} {vs : List Value} {n i : Nat} {value slice : PySem.Expr} {u : Tok} {v : Value} {Q : Value → Shared → Prop} (N : News g L s.heap news) (hp : (l, listOf vs.toArray n) ∈ news)
    (hi : vs[i]? = some v) (hz : i < 1000000) (h : Q v s)
    (hs : subscripted slice false (.ref l) (.int (i : Int) u) = operate [.ref l, .int (i : Int) u] (getItem (.ref l) (.int (i : Int) u)) := by with_unfolding_all rfl) :
    wpAny (model prog w) A (subscriptTail value slice (.ref l) (.int (i : Int) u)) Q E s :=
  tail_any (isL N hp).typeIs slot_list_getitem.lookup (wpAny_getItem_list (isL N hp) (by omega) (by omega) (x := v) (by simpa using hi) h) hs
theorem nums_put {kvs : List (Str × Value)} {ns : List Str} {i : Nat} {x : Str} {t : Tok} (h : NumsOn kvs (numsTo ns i)) (e : ns[i]? = some x) : NumsOn (stored kvs x (.int (i : Int) t)) (numsTo ns (i + 1)) := by
  rw [nums_more e]; exact KvOn.put (R := fun v u => ∃ t, v = .int u t) h x ⟨t, rfl⟩
section
variable {A A₀ : Around} {env : Env} {E : Value → Shared → Prop} {hp : Heap} {gn : Array GenState} {dr : Drawn} {tk : Nat} {os : OsState} {g : Heap} {L a b D d : Addr} {m : Str → Option Value} {news : List (Addr × Obj)} {rs : List Value} {ns : List Int} {Q : Value → Shared → Prop} {frs : List Env} {dp un : Nat} {gd : Option (List Code)}
theorem intIs (i : Int) (t : Tok) : (intKind prg w).is i (.int i t) = true := by simp [intKind, Value.isInt]
theorem num_item {o : Obj} {kn : List (Str × Value)} {x : Str} {t : Tok} {v : Value} {value slice : PySem.Expr} (N : News g L hp news) (hm : (d, o) ∈ news) (hd : o.IsDictOf (_root_.PySem.strKind prg w) kn) (hl : valueAt kn x = some v) (h : Q v ⟨hp, gn, dr, tk + 1, os⟩) (hs : subscripted slice false (.ref d) (.str x t) = operate [.ref d, .str x t] (getItem (.ref d) (.str x t)) := by with_unfolding_all rfl) :
    wpAny (model prg w) A (subscriptTail value slice (.ref d) (.str x t)) Q E ⟨hp, gn, dr, tk, os⟩ :=
  tail_any (kda_dict (s := ⟨hp, gn, dr, tk, os⟩) N hm hd).typeIs PySem.F.slot_dict_getitem.lookup (kdt_getItem (s := ⟨hp, gn, dr, tk, os⟩) N hm hd isStr hl h) hs
theorem base_item {kn : List (Str × Value)} {x : Str} {t : Tok} {v : Value} {value slice : PySem.Expr} (hd : hp.DictOf (_root_.PySem.strKind prg w) d kn) (hl : valueAt kn x = some v) (h : Q v ⟨hp, gn, dr, tk + 1, os⟩) (hs : subscripted slice false (.ref d) (.str x t) = operate [.ref d, .str x t] (getItem (.ref d) (.str x t)) := by with_unfolding_all rfl) :
    wpAny (model prg w) A (subscriptTail value slice (.ref d) (.str x t)) Q E ⟨hp, gn, dr, tk, os⟩ :=
  tail_any hd.typeIs PySem.F.slot_dict_getitem.lookup (wpAny_getItem_of (s := ⟨hp, gn, dr, tk, os⟩) isStr hd.mapOf hl h) hs
theorem news_lt {g h : Heap} {L : Addr} (N : News g L h news) : ∀ p ∈ news, p.1 ≠ h.objs.size := fun p hp => Nat.ne_of_lt (Heap.lt_size (N p hp).1)
theorem notin_nums {o : Obj} {kn : List (Str × Value)} {nm : List (Str × Int)} {x : Str} {t : Tok} (N : News g L hp news) (hm : (d, o) ∈ news) (hd : o.IsDictOf (_root_.PySem.strKind prg w) kn) (lo : (d == sysModules) = false) (hn : NumsOn kn nm) (h : Q (.bool (numGet nm x).isNone) ⟨hp, gn, dr, tk + 1, os⟩) :
    wpAny (model prg w) A (compareOp .NotIn (.str x t) (.ref d)) Q E ⟨hp, gn, dr, tk, os⟩ := by
  refine kdg_notin (s := ⟨hp, gn, dr, tk, os⟩) N hm hd lo isStr (numGet nm x).isSome ?_ ?_
  · rcases nums_at hn x with ⟨a, b⟩ | ⟨k, t, a, b⟩ <;> rw [a, b] <;> rfl
  · rw [Option.not_isSome]; exact h
theorem isT {vs : List Value} (N : News g L hp news) (hm : (a, tupO vs) ∈ news) : hp.IsTuple a vs.toArray := ⟨_, (N _ hm).1, rfl, _, rfl⟩
theorem isD {K : Type} [DecidableEq K] {knd : _root_.PySem.KeyKind prg w K} {o : Obj} {kn : List (K × Value)} (N : News g L hp news) (hm : (d, o) ∈ news) (hd : o.IsDictOf knd kn) : hp.DictOf knd d kn := Heap.dictOf_iff.mpr ⟨o, (N _ hm).1, hd⟩
theorem tup_of {us : List Value} {n : Nat} (F : Fr g L hp m) (N : News g L hp ((a, listOf us.toArray n) :: news)) (hz : us.length < 10000)
    (h : ∀ D h', Fr g L h' m → News g L h' ((D, tupO us) :: news) → (∀ p ∈ news, p.1 < D) → Q (.ref D) ⟨h', gn, dr, tk, os⟩) : wpAny (model prg w) A (call (.type "tuple") [.ref a]) Q E ⟨hp, gn, dr, tk, os⟩ :=
  kde_tupleOf (s := ⟨hp, gn, dr, tk, os⟩) F N (isL N (.head _)) (by rw [List.size_toArray]; omega) rfl fun D h' F' N' l1 => h D h' F' (News.subl N' drop_2) fun p hp => l1 p (.tail _ hp)
theorem level_use {mx : Addr} {dv : Value} {Dr : DraftD} {r nd : Addr} {vs : List Value} {nkvs : List (Str × Value)} {nm : List (Str × Int)} {tc : Int} {t : Tok} (hD : DraftOn w (inh g) dv Dr) (hpr : ∀ y, Dr.prec = some y → y.length < 1000) (hi : IntsAre vs ns) (hnm : NumsOn nkvs nm) (hsy : (nd == sysModules) = false)
    (X : (frag.heap_1 w.params).In base) (T : Top view loose mean mg mb base) (B : Below A₀ base frs g) (F : Fr g L hp m) (N : News g L hp news) (hr : (r, tupO vs) ∈ news) {o : Obj} (hn : (nd, o) ∈ news) (ho : o.IsDictOf (_root_.PySem.strKind prg w) nkvs)
    (hA : A = Ar dp un gd (env :: frs)) (hL : env.frame = some L) (hke : env.scope.kind ≠ .module) (hd : dp + 8 < recursionLimit) (hu : un + 8 * 8 < cLine)
    (ret : ∀ (k : Int) (t' : Tok) (h' : Heap) (tk' : Nat), levelOf Dr ns nm tc = some k → Fr g L h' m → News g L h' news → Q (.int k t') ⟨h', gn, dr, tk', os⟩)
    (err : levelOf Dr ns nm tc = none → ∀ e h' tk', Fly hp (env :: frs) e h' → E (.ref e) ⟨h', gn, dr, tk', os⟩) :
    wpAny (model prg w) A (call (.ref 327) [.ref mx, dv, .ref r, .ref nd, .int tc t]) Q E ⟨hp, gn, dr, tk, os⟩ :=
  useP (s := ⟨hp, gn, dr, tk, os⟩) (m := m) (fun _ => level_of (m := ⟨mx, 0, 0, 0, 0, 0, 0, 0, 0, 0, 0, 0, 0, 0⟩) (hD.mono fun a o e => F.keep a o e) hpr (isT N hr) hi (isD N hn ho) hnm hsy) X T B F N hA hL hke hd hu Pick.nil (allNe_nil _) (fun v h' tk' news' F' N' _ _ po => by
    obtain ⟨⟨k, t', rfl, hk⟩, rfl⟩ := po
    exact ret k t' h' tk' hk F' N') err
theorem rule_mk {x dx r : Addr} {k1 k2 k3 k4 k5 k6 k7 t1 t2 t4 t6 t7 : Tok} {n1 n2 n4 n6 n7 : Int} {av : Value} {ao : Option Str} (hi : IntsAre rs ns) (ha : OptS av ao) :
    RuleOn w (inl [(x, instObj 80 dx), (dx, dictOf (rattrs w k1 k2 k3 k4 k5 k6 k7 (.int n1 t1) (.int n2 t2) (.ref r) (.int n4 t4) av (.int n6 t6) (.int n7 t7)) 7), (r, tupO rs)]) (.ref x) ⟨n1, n2, ns, n4, ao, n6, n7⟩ :=
  ⟨x, dx, r, k1, k2, k3, k4, k5, k6, k7, t1, t2, t4, t6, t7, av, rs, rfl, .head _, .tail _ (.head _), .tail _ (.tail _ (.head _)), hi, ha⟩
theorem rule_mv {α : Type} {x dx D : α} {l : List α} : ∀ p ∈ [x, dx, D] ++ l, p ∈ [x, dx] ++ D :: l := fun p hp => by
  simp only [List.cons_append, List.nil_append] at hp ⊢; exact hp
theorem rule_new {x dx : Addr × Obj} {o : Obj} (hD : ∀ p ∈ news, p.1 ≠ D) (hne : ∀ p ∈ [x, dx], ∀ q ∈ (D, o) :: news, q.1 ≠ p.1) : Anew news [x, dx, (D, o)] := fun q hq p hp => by
  simp only [List.mem_cons, List.not_mem_nil, or_false] at hq
  rcases hq with rfl | rfl | rfl
  · exact hne _ (.head _) p (.tail _ hp)
  · exact hne _ (.tail _ (.head _)) p (.tail _ hp)
  · exact hD p hp
theorem rule4_use {n1 n2 n4 : Int} {t1 t2 t4 : Tok}
    (X : (frag.heap_1 w.params).In base) (T : Top view loose mean mg mb base) (B : Below A₀ base frs g) (F : Fr g L hp m) (N : News g L hp ((D, tupO rs) :: news)) (hD : ∀ p ∈ news, p.1 ≠ D) (hi : IntsAre rs ns) (X' : (frag.heap_1 w.params).In g)
    (hA : A = Ar dp un gd (env :: frs)) (hL : env.frame = some L) (hke : env.scope.kind ≠ .module) (hd : dp + 1 + 3 < recursionLimit) (hu : un + 1 + 8 * 3 < cLine)
    (ret : ∀ x h' tk' nd, Fr g L h' m → News g L h' (nd ++ news) → Anew news nd → RuleOn w (inl nd) (.ref x) ⟨n1, n2, ns, n4, none, 0, 0⟩ → Q (.ref x) ⟨h', gn, dr, tk', os⟩) :
    wpAny (model prg w) A (call (.ref 80) [.int n1 t1, .int n2 t2, .ref D, .int n4 t4]) Q E ⟨hp, gn, dr, tk, os⟩ := by
  refine newP (C := 80) (fI := 77) (k := 3) (Post := fun x dx n => ∃ t6 t7, RPost w (.int n1 t1) (.int n2 t2) (.ref D) (.int n4 t4) .none (.int 0 t6) (.int 0 t7) x dx n) (fun _ _ _ _ _ _ l2 => r_init4 l2) X T B F N X' hA hL hke hd hu (by k_is) (by k_is) (by k_is) fun x dx h' tk' news' po F' N' hne => ?_
  obtain ⟨t6, t7, k1, k2, k3, k4, k5, k6, k7, rfl⟩ := po
  exact ret x h' tk' _ F' (News.subl N' rule_mv) (rule_new hD hne) (rule_mk hi .none)
theorem rule_mv7 {α : Type} {x dx D : α} {pre nd : List α} : ∀ p ∈ pre ++ ([x, dx, D] ++ nd), p ∈ [x, dx] ++ D :: (pre ++ nd) := fun p hp => by
  simp only [List.mem_append, List.mem_cons, List.not_mem_nil, or_false] at hp ⊢
  rcases hp with h | (h | h | h) | h <;> simp [h]
theorem rule7_use {n1 n2 n4 n6 n7 : Int} {t1 t2 t4 t6 t7 : Tok} {av : Value} {ao : Option Str} {pre nd : List (Addr × Obj)} (ha : OptS av ao)
    (X : (frag.heap_1 w.params).In base) (T : Top view loose mean mg mb base) (B : Below A₀ base frs g) (F : Fr g L hp m) (N : News g L hp ((D, tupO rs) :: (pre ++ nd))) (hD : ∀ p ∈ pre ++ nd, p.1 < D) (hi : IntsAre rs ns) (X' : (frag.heap_1 w.params).In g)
    (hA : A = Ar dp un gd (env :: frs)) (hL : env.frame = some L) (hke : env.scope.kind ≠ .module) (hd : dp + 1 + 3 < recursionLimit) (hu : un + 1 + 8 * 3 < cLine)
    (ret : ∀ x h' tk' nd9, Fr g L h' m → News g L h' (pre ++ (nd9 ++ nd)) → Anew (pre ++ nd) nd9 → RuleOn w (inl nd9) (.ref x) ⟨n1, n2, ns, n4, ao, n6, n7⟩ → Q (.ref x) ⟨h', gn, dr, tk', os⟩) :
    wpAny (model prg w) A (call (.ref 80) [.int n1 t1, .int n2 t2, .ref D, .int n4 t4, av, .int n6 t6, .int n7 t7]) Q E ⟨hp, gn, dr, tk, os⟩ := by
  refine newP (C := 80) (fI := 77) (k := 3) (Post := fun x dx n => RPost w (.int n1 t1) (.int n2 t2) (.ref D) (.int n4 t4) av (.int n6 t6) (.int n7 t7) x dx n) (fun _ _ _ _ _ _ l2 => r_init7 ha l2) X T B F N X' hA hL hke hd hu (by k_is) (by k_is) (by k_is) fun x dx h' tk' news' po F' N' hne => ?_
  obtain ⟨k1, k2, k3, k4, k5, k6, k7, rfl⟩ := po
  exact ret x h' tk' _ F' (News.subl N' rule_mv7) (rule_new (fun p hp => Nat.ne_of_lt (hD p hp)) hne) (rule_mk hi ha)
end
theorem draft_no1 {nm : List (Str × Int)} {tc n : Int} {D : DraftD} {j : Nat} {x : Str} (e : D.right[j]? = some x) (h : (numGet nm x).isNone = true) : draftRule nm tc n D = none := by
  rw [draftRule, right_none (List.mem_of_getElem? e) (Option.isNone_iff_eq_none.mp h)]
theorem rights_ok {nm : List (Str × Int)} {D : DraftD} {k : Nat} (hk : k = D.right.length) (h : ∀ j y, j < k → D.right[j]? = some y → (numGet nm y).isNone = false) : rightNums nm D.right = some (D.right.map fun x => (numGet nm x).getD 0) :=
  right_some fun x hx e => by
    obtain ⟨j, hj⟩ := List.getElem?_of_mem hx
    have := h j x (by rw [hk]; exact (List.getElem?_eq_some_iff.mp hj).1) hj
    rw [e] at this; cases this
theorem draft_no2 {nm : List (Str × Int)} {tc n : Int} {D : DraftD} {ns : List Int} (hr : rightNums nm D.right = some ns) (h : levelOf D ns nm tc = none) : draftRule nm tc n D = none := by
  rw [draftRule, hr]; dsimp only; rw [h]
theorem draft_yes {nm : List (Str × Int)} {tc n kl k : Int} {D : DraftD} {ns : List Int} (hr : rightNums nm D.right = some ns) (h : levelOf D ns nm tc = some k) (hl : numGet nm D.left = some kl) : draftRule nm tc n D = some ⟨n, kl, ns, k, D.action, D.line, D.before⟩ := by
  rw [draftRule, hr]; dsimp only; rw [h]; dsimp only; rw [hl]; rfl
theorem run_next {nm : List (Str × Int)} {tcv kl k : Int} {ds : List DraftD} {rs : List RuleD} {R0 : RuleD} {i : Nat} {D : DraftD} {ns : List Int} {n : Nat} (hrun : rulesRun nm tcv (ds.drop i) rs = rulesRun nm tcv ds [R0]) (hDi : ds[i]? = some D) (hr : rightNums nm D.right = some ns) (h : levelOf D ns nm tcv = some k) (hl : numGet nm D.left = some kl) (hn : n = rs.length) :
    rulesRun nm tcv (ds.drop (i + 1)) (rs ++ [⟨n, kl, ns, k, D.action, D.line, D.before⟩]) = rulesRun nm tcv ds [R0] := by
  subst hn
  rw [← hrun, run_drop hDi, draft_yes hr h hl]
theorem ints_app {us vs : List Value} {ns ms : List Int} (h : IntsAre us ns) (h' : IntsAre vs ms) : IntsAre (us ++ vs) (ns ++ ms) := by
  induction h with
  | nil => exact h'
  | cons x t _ ih => exact .cons x t ih
theorem num_of {nm : List (Str × Int)} {x : Str} (h : (numGet nm x).isNone = false) : ∃ k, numGet nm x = some k := by
  cases e : numGet nm x with
  | none => rw [e] at h; cases h
  | some k => exact ⟨k, rfl⟩
theorem map_more {nm : List (Str × Int)} {r : List Str} {ys : List Value} {i : Nat} {x : Str} {k : Int} {t : Tok} (h : IntsAre ys ((r.take i).map fun x => (numGet nm x).getD 0)) (e : r[i]? = some x) (hk : numGet nm x = some k) : IntsAre (ys ++ [.int k t]) ((r.take (i + 1)).map fun x => (numGet nm x).getD 0) := by
  rw [take_more e, List.map_append, List.map_singleton, hk]
  exact ints_app h (.cons _ _ .nil)
theorem map_all {nm : List (Str × Int)} {r : List Str} {ys : List Value} {n : Nat} (h : IntsAre ys ((r.take n).map fun x => (numGet nm x).getD 0)) (e : n = r.length) : IntsAre ys (r.map fun x => (numGet nm x).getD 0) := by
  rw [e, List.take_length] at h; exact h
theorem nums_some {kn : List (Str × Value)} {nm : List (Str × Int)} {y : Str} {k : Int} (h : NumsOn kn nm) (e : numGet nm y = some k) : ∃ t, valueAt kn y = some (.int k t) := by
  rcases nums_at h y with ⟨a, _⟩ | ⟨k', t, a, b⟩
  · rw [a] at e; cases e
  · rw [a] at e; cases e; exact ⟨t, b⟩
theorem mapE4 {α : Type} {a b c d : Str} {f g : Str → α} (h : ∀ y, y ≠ a → y ≠ b → y ≠ c → y ≠ d → f y = g y) : f = fun y => if y = a then f a else if y = b then f b else if y = c then f c else if y = d then f d else g y := by
  funext y
  by_cases h1 : y = a
  · rw [if_pos h1, h1]
  · by_cases h2 : y = b
    · rw [if_neg h1, if_pos h2, h2]
    · by_cases h3 : y = c
      · rw [if_neg h1, if_neg h2, if_pos h3, h3]
      · by_cases h4 : y = d
        · rw [if_neg h1, if_neg h2, if_neg h3, if_pos h4, h4]
        · rw [if_neg h1, if_neg h2, if_neg h3, if_neg h4, h y h1 h2 h3 h4]
abbrev mnum (a0 : Option Value) (D1 : Addr) (tc : Int) (tcT : Tok) (y : Str) (stT : Tok) (mx : Addr) (M0 : Str → Option Value) : Str → Option Value := fun z => if z = Str.ofString "at" then a0 else if z = Str.ofString "names" then some (.ref D1) else if z = Str.ofString "terminal_count" then some (.int tc tcT) else if z = Str.ofString "start" then some (.str y stT) else if z = Str.ofString "self" then some (.ref mx) else M0 z
abbrev mrul (rl : Addr) (M1 : Str → Option Value) : Str → Option Value := fun z => if z = Str.ofString "rules" then some (.ref rl) else M1 z
theorem rules_clean {C : Prop} {g h : Heap} {L l : Addr} {M : Str → Option Value} {o : Obj} {q1 q2 q3 : Addr × Obj} {nd : List (Addr × Obj)} (F : Fr g L h fun y => if y = Str.ofString "rules" then some (.ref l) else M y) (N : News g L h ((l, o) :: (nd ++ [q1, q2, q3])))
    (hA : Anew [q1, q2, q3] nd) (l1 : ∀ p ∈ nd ++ [q1, q2, q3], p.1 < l)
    (k : ∀ rl, Fr g L h (fun y => if y = Str.ofString "rules" then some (.ref rl) else M y) → News g L h ((rl, o) :: q1 :: q2 :: q3 :: nd) → AllNe [rl, q1.1, q2.1, q3.1] nd → @Ne Nat rl q1.1 → @Ne Nat rl q2.1 → @Ne Nat rl q3.1 → C) : C :=
  k l F (News.subl N fun p hp => by
    simp only [List.mem_cons, List.mem_append, List.not_mem_nil, or_false] at hp ⊢
    rcases hp with h | h | h | h | h <;> simp [h]) (AllNe.of_off (List.forall_mem_cons.mpr ⟨fun p hp => Nat.ne_of_lt (l1 p (List.mem_append.mpr (.inl hp))), List.forall_mem_cons.mpr ⟨fun p hp e => hA p hp q1 (.head _) e.symm, List.forall_mem_cons.mpr ⟨fun p hp e => hA p hp q2 (.tail _ (.head _)) e.symm, List.forall_mem_cons.mpr ⟨fun p hp e => hA p hp q3 (.tail _ (.tail _ (.head _))) e.symm, List.forall_mem_nil _⟩⟩⟩⟩))
    (Nat.ne_of_gt (l1 q1 (by simp))) (Nat.ne_of_gt (l1 q2 (by simp))) (Nat.ne_of_gt (l1 q3 (by simp)))
/-- the drafts' loop -/
inductive DrJ (w : World) (S : MS) (tcv : Int) (R0 : RuleD) (rl : Addr) (q1 q2 q3 : Addr × Obj) (Mr : Str → Option Value) (i : Nat) (mm : Str → Option Value) (nx : List (Addr × Obj)) : Prop
  | mk (rv : List Value) (re : Nat) (rs : List RuleD) (nd : List (Addr × Obj)) (b0 c0 d0 e0 : Option Value) : nx = (rl, listOf rv.toArray re) :: q1 :: q2 :: q3 :: nd → All2 (RuleOn w (inl nd)) rv rs → rs.length = i + 1 → rulesRun (numOf S) tcv (S.ds.drop i) rs = rulesRun (numOf S) tcv S.ds [R0] → AllNe [rl, q1.1, q2.1, q3.1] nd →
      mm = (fun y => if y = Str.ofString "draft" then b0 else if y = Str.ofString "name" then c0 else if y = Str.ofString "right" then d0 else if y = Str.ofString "level_of" then e0 else Mr y) → DrJ w S tcv R0 rl q1 q2 q3 Mr i mm nx
inductive DrOpen (w : World) (h : Heap) (x : Addr) (D : DraftD) : Prop
  | mk (d l : Addr) (k1 k2 k3 k4 k5 k6 lt nt bt : Tok) (pv av : Value) (rs : List Value) : InstAt h x (instObj 224 d) 224 (some (dictOf (dattrs w k1 k2 k3 k4 k5 k6 (.str D.left lt) (.ref l) pv av (.int D.line nt) (.int D.before bt)) 6)) → h.IsList l rs.toArray → StrsAre rs D.right → OptS pv D.prec → OptS av D.action → handedIn av = true → DrOpen w h x D
theorem DraftOn.opens {w : World} {h : Heap} {v : Value} {D : DraftD} (H : DraftOn w (inh h) v D) : ∃ x, v = .ref x ∧ DrOpen w h x D := by
  obtain ⟨x, d, l, k1, k2, k3, k4, k5, k6, lt, pv, av, nt, bt, rs, e, a, b, c, r1, r2⟩ := H.inst
  exact ⟨x, e, .mk d l k1 k2 k3 k4 k5 k6 lt nt bt pv av rs a b c r1 r2 (OptS.handed r2)⟩
theorem words_B35b : True := by
  k_with "subscriptTail Name Name ref int" => ((try dsimp only); k_dflt (refine' item_at ?itN ?itm hvi ?itz ?_; (case itN => k_asm); (case itm => mem_news); (case itz => omega)))
  k_with "subscriptTail" => ((try dsimp only); (with_reducible show wpAny _ _ (subscriptTail _ _ (Value.ref _) (Value.str _ _)) _ _ _); k_dflt (first | (refine' num_item ?niN ?nim ?nid ?nil ?_; (case niN => k_asm); (case nim => mem_news); (case nid => with_reducible assumption); (case nil => with_reducible assumption)) | (refine' base_item ?bid ?bil ?_; (case bid => exact DictOf_Fr (by k_asm) (by with_reducible assumption)); (case bil => with_reducible assumption))))
  k_with "call ref" => ((try dsimp only); k_dflt (
    (with_reducible show wpAny _ _ (call (Value.ref 80) [_, _, _, _]) _ _ _)
    (refine' rule4_use X T B' ?F ?N ?D ?i X' ?A ?L ?K ?d ?u ?_)
    (case F => k_asm)
    (case N => k_asm)
    (case D => first | exact news_lt (by with_reducible assumption) | k_all)
    (case i => exact IntsAre.cons _ _ (IntsAre.cons _ _ IntsAre.nil))
    (case A => exact rfl)
    (case L => exact rfl)
    (case K => intro h9; cases h9)
    (case d => ktr_room)
    (case u => ktr_units)
    intro x9 h' tk' nd9 F' N' hA9 hR9))
  k_with "call ref" => ((try dsimp only); k_dflt (
    (with_reducible show wpAny _ _ (call (Value.ref 80) [_, _, _, _, _, _, _]) _ _ _)
    (refine' rule7_use (pre := [_, _, _, _, _]) hav X T B' ?F ?N ?D hysI X' ?A ?L ?K ?d ?u ?_)
    (case F => k_asm)
    (case N => k_asm)
    (case D => first | exact l1 | assumption)
    (case A => exact rfl)
    (case L => exact rfl)
    (case K => intro h9; cases h9)
    (case d => ktr_room)
    (case u => ktr_units)
    intro x9 h' tk' nd9 F' N' hA9 hR9
    dsimp only [List.cons_append, List.nil_append] at N'
    (have hT9 : ∀ p ∈ nd9 ++ nd, p.1 ≠ rl := fun p hp => (List.mem_append.mp hp).elim (fun h e => hA9 p h _ (.tail _ (.head _)) e.symm) (hAn.off (.head _) p))))
  k_with "call ref" => ((try dsimp only); k_dflt (
    (with_reducible show wpAny _ _ (call (Value.ref 327) _) _ _ _)
    (refine' level_use hDo (fun y e => (Sd.prec D hDm y e).1) hysI hkn hsN X T B' ?F ?N ?lvr ?lvn ?lvd ?A ?L ?K ?d ?u ?_ ?e)
    (case F => k_asm)
    (case N => k_asm)
    (case lvr => mem_news)
    (case lvn => mem_news)
    (case lvd => with_reducible assumption)
    (case A => exact rfl)
    (case L => exact rfl)
    (case K => intro h9; cases h9)
    (case d => ktr_room)
    (case u => ktr_units)
    (case e => intro hx9 e9 h9 tk9 fl9; refine pass_outX gk' (fun p hp => (nomatch hp)) (by k_asm) (fun p hp => (nomatch hp)) fl9 fun h2 f2 => err (made_noneR hst' hks (by rw [q5]) hrun hDi fun n => draft_no2 hrn hx9) _ _ _ f2)
    intro k9 t9 h' tk' hlv9 F' N'))
  k_with "setItem ref int" => ((try dsimp only); k_dflt (refine' kda_set (knd := intKind _ _) ?ksF ?ksN ?ksU ?ksd (intIs _ _) ?ksz ?_; (case ksF => k_asm); (case ksN => k_asm); (case ksU => k_updF); (case ksd => with_reducible assumption); (case ksz => rw [sizeLine_eq]; omega)); intro h' o' F' N' hd'; (try dsimp only at N'))
  k_with "call ref" => ((try dsimp only); k_dflt (
    (with_reducible show wpAny _ _ (call (Value.ref 162) _) _ _ _)
    (refine' gram_use X T B' ?F ?N X' ?A ?L ?K ?d ?u M'.oE ?g1 hnv ?g2 ?g3 ?g4 (nd := nd) ?g5 hrv ?g6 ?g7 hoL hsL hlk ?_)
    (case F => k_asm)
    (case N => k_asm)
    (case A => exact rfl)
    (case L => exact rfl)
    (case K => intro h9; cases h9)
    (case d => ktr_room)
    (case u => ktr_units)
    (case g1 => mem_news)
    (case g2 => omega)
    (case g3 => mem_news)
    (case g4 => omega)
    (case g5 => intro q hq; kat_tups)
    (case g6 => exact made_ok Sd (by rw [q5]) hrun hnl)
    (case g7 => mem_news)
    intro x9 h' tk' nd9 F' N' hG9))
  k_with "call type:tuple" => ((try dsimp only); k_dflt (refine' tup_of ?tuF ?tuN ?tuz ?_; (case tuF => k_asm); (case tuN => k_asm); (case tuz => omega)); intro D' h' F' N' l1)
  k_with "setItem ref str" => ((try dsimp only); k_dflt (refine' kda_set (knd := _root_.PySem.strKind _ _) ?ksF ?ksN ?ksU ?ksd (strKind_is _ _ _ _) ?ksz ?_; (case ksF => k_asm); (case ksN => k_asm); (case ksU => k_updF); (case ksd => with_reducible assumption); (case ksz => rw [sizeLine_eq]; omega)); intro h' o' F' N' hd'; (try dsimp only at N'))
  k_with "exec Raise some none" => (k_dflt (refine' Raise_geX X T B' ?F X' T' ?d ?u ?a ?b ?c ?_; (case F => k_asm); (case d => ktr_room); (case u => ktr_units); (case a => exact rfl); (case b => exact rfl); (case c => exact rfl)))
  k_with "geOutX" => (refine geEnd (by k_asm) fun h' e t₀ dd tk' kp he0 he => ?_; refine raise_outX gk' (fun p hp => (nomatch hp)) B' (by k_asm) (fun p hp => (nomatch hp)) kp he0 he rfl fun h2 fl => ?_)
  k_with "compareOp NotIn str ref" => ((try dsimp only); k_dflt (refine' notin_nums ?nnN ?nnm ?nnd ?nns ?nnn ?_; (case nnN => k_asm); (case nnm => mem_news); (case nnd => with_reducible assumption); (case nns => with_reducible assumption); (case nnn => with_reducible assumption)))
  k_with "call type:list" => ((try dsimp only); (with_reducible show wpAny _ _ (call (Value.type "list") [Value.ref 62]) _ _ _); k_dflt (refine' own_list ?olX ?olF ?olN ?_; (case olX => exact Frag.In.keeps X' (Fr.keep (by k_asm))); (case olF => k_asm); (case olN => k_asm)); intro D' c' h' vs0 hs0 hv0 F' N' l1; (try k_sweep))
  k_with "binaryOp Add ref ref" => ((try dsimp only); (with_reducible show wpAny _ _ (binaryOp _ (Value.ref _) (Value.ref _)) _ _ _); k_dflt (first | (refine' add_T ?adF ?adN ?adz ?_; (case adF => k_asm); (case adN => k_asm); (case adz => first | omega | (simp only [List.length_cons, List.length_nil, List.length_append]; omega))) | (refine' add_R ?adF ?adN ?adb ?adz ?_; (case adF => k_asm); (case adN => k_asm); (case adb => exact IsList_Fr (by k_asm) (by with_reducible assumption)); (case adz => first | omega | (simp only [List.length_cons, List.length_nil, List.length_append]; omega)))); intro D' h' F' N' l1; (try k_sweep))
  k_with "call builtin:len" => ((try dsimp only); (with_reducible show wpAny _ _ (call (Value.builtin "len") [Value.ref _]) _ _ _); k_dflt (refine' len_L ?ll ?lz ?_; (case ll => (refine' isL ?lN ?lm; (case lN => k_asm); (case lm => mem_news))); (case lz => first | omega | (simp only [List.length_cons, List.length_nil, List.length_append]; omega)); k_whole))
  k_with "call ref" => (k_dflt (
    (with_reducible show wpAny _ _ (call (Value.ref 320) _) _ _ _)
    (refine' useP (fun _ => start_name ?tkM Z) X T B' ?F ?N ?A ?L ?K ?d ?u ?P ?ne ?_ ?e)
    (case tkM => exact MB.mono M' (Fr.keep (by k_asm)))
    (case F => k_asm)
    (case N => k_asm)
    (case A => exact rfl)
    (case L => exact rfl)
    (case K => intro h9; cases h9)
    (case d => ktr_room)
    (case u => ktr_units)
    (case P => exact Pick.nil)
    (case ne => exact allNe_nil _)
    (case e => intro hx9 e9 h9 tk9 fl9; refine pass_outX gk' (fun p hp => (nomatch hp)) (by k_asm) (fun p hp => (nomatch hp)) fl9 fun h2 f2 => err (made_none0 hx9) _ _ _ f2)
    intro v' h' tk' news' F' N' hf' kp' po'
    obtain ⟨⟨y', ty', rfl, hst'⟩, rfl⟩ := po'
    simp only [List.nil_append] at N'
    (try k_sweep)))
  trivial
theorem OptI.handed {v : Value} : ∀ {o : Option Int}, OptI v o → handedIn v = true
  | _, .none => rfl
  | _, .some _ _ => rfl
theorem levels_clean {C : Prop} {g h : Heap} {L d : Addr} {M : Str → Option Value} {o : Obj} {rest : List (Addr × Obj)} (F : Fr g L h fun y => if y = Str.ofString "levels" then some (.ref d) else M y) (N : News g L h ((d, o) :: rest)) (ho : o.IsDictOf (intKind prg w) []) (hs : (d == sysModules) = false) (l1 : ∀ p ∈ rest, p.1 < d)
    (k : ∀ d o, Fr g L h (fun y => if y = Str.ofString "levels" then some (.ref d) else M y) → News g L h ((d, o) :: rest) → o.IsDictOf (intKind prg w) [] → (d == sysModules) = false → (∀ p ∈ rest, p.1 ≠ d) → C) : C := k d o F N ho hs fun p hp => Nat.ne_of_lt (l1 p hp)
theorem stored_len {κ : Type} [DecidableEq κ] {kvs : List (κ × Value)} {k : κ} {v : Value} {n : Nat} (h : kvs.length ≤ n) : (stored kvs k v).length ≤ n + 1 := by
  rw [stored]; split <;> simp <;> omega
theorem value_nodup {κ : Type} [DecidableEq κ] : ∀ {kvs : List (κ × Value)}, (kvs.map (·.1)).Nodup → ∀ {i : Nat} {k : κ} {v : Value}, kvs[i]? = some (k, v) → valueAt kvs k = some v
  | [], _, i, k, v, e => by simp at e
  | q :: r, hn, 0, k, v, e => by
    simp only [List.getElem?_cons_zero, Option.some.injEq] at e
    subst e
    simp [valueAt]
  | q :: r, hn, i + 1, k, v, e => by
    simp only [List.getElem?_cons_succ] at e
    rw [List.map_cons, List.nodup_cons] at hn
    have ne : ¬ q.1 = k := fun z => hn.1 (z ▸ List.mem_map_of_mem (f := Prod.fst) (List.mem_of_getElem? e))
    have ih := value_nodup hn.2 e
    simp only [valueAt, List.find?_cons, ne, decide_false] at ih ⊢
    exact ih
theorem dict_nodup {κ : Type} [DecidableEq κ] {knd : _root_.PySem.KeyKind prg w κ} {o : Obj} {kvs : List (κ × Value)} (h : o.IsDictOf knd kvs) : (kvs.map (·.1)).Nodup := by
  obtain ⟨es, ep, _, _, _, _, hn⟩ := h; exact hn
theorem lv_set {P : Mp} {lk : List (Int × Value)} {nm : List (Str × Int)} {lv : Lv} {i : Nat} {q : Str × (Int × Str)} {k9 : Int} {a : Addr} {t1 t2 : Tok} (h : KvOn (LvV P) lk (lvlsTo nm (lv.take i))) (e : lv[i]? = some q) (hk : numGet nm q.1 = some k9) (hP : P a (tupO [.int q.2.1 t1, .str q.2.2 t2])) :
    KvOn (LvV P) (stored lk k9 (.ref a)) (lvlsTo nm (lv.take (i + 1))) := by
  rw [lvls_more e, hk, Option.getD_some]
  exact KvOn.put h k9 ⟨a, t1, t2, rfl, hP⟩
theorem made_some {ks tcv : Int} {y : Str} {rs : List RuleD} (hst : startOf S = some y) (hks : numGet (numOf S) y = some ks) (e : tcv = 3 + S.ts.length) (hrun : rulesRun (numOf S) tcv (S.ds.drop S.ds.length) rs = rulesRun (numOf S) tcv S.ds [⟨0, tcv, [ks, 0], 0, none, 0, 0⟩]) :
    madeOf S = some ⟨namesOf S, tcv, rs, lvlsTo (numOf S) S.lv, S.ex, ks⟩ := by
  rw [List.drop_length, rulesRun] at hrun
  subst e
  rw [madeOf, hst]
  dsimp only
  rw [hks, Option.getD_some, ← hrun]
theorem made_ok {ks tcv : Int} {rs : List RuleD} (Sd : SoundS S) (e : tcv = 3 + S.ts.length) (hrun : rulesRun (numOf S) tcv (S.ds.drop S.ds.length) rs = rulesRun (numOf S) tcv S.ds [⟨0, tcv, [ks, 0], 0, none, 0, 0⟩]) {n : Nat} (hn : n = (namesOf S).length) :
    ∀ R ∈ rs, 0 ≤ R.left ∧ R.left < n ∧ R.right.length < 100 := by
  rw [List.drop_length, rulesRun] at hrun
  subst e hn
  exact fun R hR => (run_all hrun.symm (P := RuleOk S) (fun R hR => by rw [List.mem_singleton.mp hR]; exact first_ok) (fun D hD n R hR => draft_ok Sd hD hR) R hR).1
section
variable {A A₀ : Around} {env : Env} {E : Value → Shared → Prop} {hp : Heap} {gn : Array GenState} {dr : Drawn} {tk : Nat} {os : OsState} {g : Heap} {L : Addr} {m : Str → Option Value} {news : List (Addr × Obj)} {Q : Value → Shared → Prop} {frs : List Env} {dp un : Nat} {gd : Option (List Code)}
theorem gram_use {nl rl ld : Addr} {nv rv : List Value} {ne re : Nat} {rs : List RuleD} {tc st : Int} {tt t9 : Tok} {ex : Value} {eo : Option Int} {oL : Obj} {lk : List (Int × Value)} {lvl : List (Int × (Int × Str))} {names : List Str} {nd : List (Addr × Obj)}
    (X : (frag.heap_1 w.params).In base) (T : Top view loose mean mg mb base) (B : Below A₀ base frs g) (F : Fr g L hp m) (N : News g L hp news) (X' : (frag.heap_1 w.params).In g)
    (hA : A = Ar dp un gd (env :: frs)) (hL : env.frame = some L) (hke : env.scope.kind ≠ .module) (hd : dp + 1 + 4 < recursionLimit) (hu : un + 1 + 8 * 4 < cLine)
    (hex : OptI ex eo) (h1 : (nl, listOf nv.toArray ne) ∈ news) (hnv : StrsAre nv names) (hnz : nv.length < 900) (h2 : (rl, listOf rv.toArray re) ∈ news) (hrz : rv.length < 900) (hnd : ∀ p ∈ nd, p ∈ news) (hR : All2 (RuleOn w (inl nd)) rv rs) (hok : ∀ R ∈ rs, 0 ≤ R.left ∧ R.left < nv.length ∧ R.right.length < 100)
    (h3 : (ld, oL) ∈ news) (hoL : oL.IsDictOf (intKind prg w) lk) (hsL : (ld == sysModules) = false) (hlk : KvOn (LvV PP) lk lvl)
    (ret : ∀ x h' tk' n', Fr g L h' m → News g L h' n' → GramOn w (fun a o => (a, o) ∈ n' ∨ PP a o) (.ref x) ⟨names, tc, rs, lvl, eo, st⟩ → Q (.ref x) ⟨h', gn, dr, tk', os⟩) :
    wpAny (model prg w) A (call (.ref 162) [.ref nl, .int tc tt, .ref rl, .ref ld, ex, .int st t9]) Q E ⟨hp, gn, dr, tk, os⟩ := by
  refine newP (C := 162) (fI := 96) (k := 4) (Post := fun x dx n => ∃ ks b f o i nd, n = (x, instObj 162 dx) :: (dx, dictOf (gattrs w ks (.ref nl) (.int tc tt) (.ref rl) (.ref ld) ex (.int st t9) b f o i) 10) :: nd)
    (fun x dx h' F' N' l1 l2 => g_init hex l2 (isL N' (.tail _ (.tail _ h1))) (l1 _ h1) hnz (isL N' (.tail _ (.tail _ h2))) (l1 _ h2) hrz (hR.mono fun _ _ => RuleOn.mono fun a o hm => ⟨(N' (a, o) (.tail _ (.tail _ (hnd _ hm)))).1, l1 _ (hnd _ hm)⟩) hok) X T B F N X' hA hL hke hd hu (by k_is) (by k_is) (by k_is) fun x dx h' tk' news' po F' N' hne => ?_
  obtain ⟨ks, b, f, o, i, nd', rfl⟩ := po
  exact ret x h' tk' _ F' N' ⟨x, dx, nl, rl, ld, ks, b, f, o, i, tt, t9, ex, nv, ne, rv, re, oL, lk, rfl, .inl (.head _), .inl (.tail _ (.head _)), .inl (List.mem_append.mpr (.inr h1)), hnv, .inl (List.mem_append.mpr (.inr h2)), hR.mono fun _ _ => RuleOn.mono fun a o hm => .inl (List.mem_append.mpr (.inr (hnd _ hm))), .inl (List.mem_append.mpr (.inr h3)), hoL, hsL, All2.mono hlk fun _ _ r => ⟨r.1, by obtain ⟨a, t1, t2, e, hp⟩ := r.2; exact ⟨a, t1, t2, e, .inr hp⟩⟩, hex⟩
end
theorem made_noneR {ks tcv : Int} {y : Str} {i : Nat} {rs : List RuleD} {D : DraftD} (hst : startOf S = some y) (hks : numGet (numOf S) y = some ks) (e : tcv = 3 + S.ts.length) (hrun : rulesRun (numOf S) tcv (S.ds.drop i) rs = rulesRun (numOf S) tcv S.ds [⟨0, tcv, [ks, 0], 0, none, 0, 0⟩]) (hDi : S.ds[i]? = some D)
    (h : ∀ n, draftRule (numOf S) tcv n D = none) : madeOf S = none := by
  rw [run_drop hDi, h] at hrun
  subst e
  rw [madeOf, hst]
  dsimp only
  rw [hks, Option.getD_some, ← hrun]
theorem made_walk (M : MB w m S lct mct st ex ts lo ds ls kvs h) (Z : MSm S) (Sd : SoundS S) (hPP : ∀ a o, PP a o → h.get? a = some o) (hlv : LvsOn PP kvs S.lv) (zn : S.ts.length + S.ls.length < 800) (zd : S.ds.length < 800) (zv : S.lv.length < 60) :
    Spec w loose mean mg mb base 332 [.ref m.x] 12 h [] (fun v n => ∃ G, madeOf S = some G ∧ GramOn w (fun a o => (a, o) ∈ n ∨ PP a o) v G) (madeOf S = none) := by
  have fp := fp_nil (base := base) (h := h)
  top_name
  have M' := M.mono (g := g') fun b o e => gk' b o e (fun z => (nomatch z))
  have hI := M'.ix
  have hT := M'.it
  have hL := M'.il
  have hDl := M'.id
  have sT := M.sT
  have sL := M.sL
  have q1 := sL.length
  have q2 := M.dS.len
  have q3 := Z.zl
  have q4 := Z.zd
  have q5 := sT.length
  have q6 := Z.zt
  k_steps
  refine made_clean (S := S) rfl (by k_asm) rfl (by k_asm) (by with_reducible assumption) sT sL (by k_extra "ltD") (by k_extra "ltD") (by k_extra "ltD") R' (by with_reducible assumption) (by with_reducible assumption) (by with_reducible assumption) ?_
  intro M0 tcT stT nv D1 dN oN oC F2 N2 hnv n1 n2 n3 R2 hoN hoC hsN
  clear F' N' R'
  have hnl : nv.length = (namesOf S).length := hnv.length
  have hnl2 := names_len S
  refine loopR (fun i mm nx => ∃ no kn a0, nx = [(dN, no), (D1, listOf nv.toArray 0), (L' + 1, oC)] ∧ no.IsDictOf (_root_.PySem.strKind prg w) kn ∧ NumsOn kn (numsTo (namesOf S) i) ∧
      mm = mnum a0 D1 (3 + ts.length) tcT y' stT m.x M0)
    (by exact rfl) R2 (by omega) (by passes_own) (fun _ _ => rfl) F2 N2 ⟨_, [], _, rfl, hoN, .nil, mapE1 fun _ _ => rfl⟩ ?turn ?done
  case turn =>
    intro i t5 m1 nx h5 tk5 I oI hi hJ hnx F5 N5
    refine hideT fun Qt hQt => ?_
    obtain ⟨no, kn, a0, rfl, hno, hkn, rfl⟩ := hJ
    obtain ⟨v, hvi⟩ : ∃ v, nv[i]? = some v := ⟨nv[i], List.getElem?_eq_getElem hi⟩
    obtain ⟨x5, t5, rfl, hni⟩ := strs_at hnv hvi
    have i1 : @Ne Nat dN I := hnx _ (.head _)
    have i2 : @Ne Nat D1 I := hnx _ (.tail _ (.head _))
    have i3 : @Ne Nat (L' + 1) I := hnx _ (.tail _ (.tail _ (.head _)))
    have hkz := hkn.len
    have hkz2 := nums_len (namesOf S) i
    k_steps
    refine hQt _ _ ?_
    show TEnd _ _ _ _ _ _ _
    refine tEnd (nx' := [(dN, o'), (D1, listOf nv.toArray 0), (L' + 1, _)]) (by k_asm) (by k_asm) ?_ ?_
    case' refine_2 => exact ⟨o', _, _, rfl, hd', nums_put hkn hni, mapE1 fun y hy => by simp only [if_neg hy]⟩
    exact List.forall_mem_cons.mpr ⟨i1, List.forall_mem_cons.mpr ⟨i2, List.forall_mem_cons.mpr ⟨i3, List.forall_mem_nil _⟩⟩⟩
  case done =>
    intro m1 nx h6 tk6 hJ F6 N6
    obtain ⟨no, kn, a0, rfl, hno, hkn, rfl⟩ := hJ
    replace hkn : NumsOn kn (numOf S) := by rw [hnl] at hkn; exact hkn
    have hkz := hkn.len
    obtain ⟨ks, hks⟩ := numOf_left (start_in hst')
    obtain ⟨us, hvs⟩ := nums_some hkn hks
    k_steps
    refine rules_clean (by k_asm) (by k_asm) hA9 (by with_reducible assumption) ?_
    intro rl F8 N8 hAr r1 r2 r3
    refine loopB (DrJ w S (3 + ts.length) ⟨0, 3 + ts.length, [ks, 0], 0, none, 0, 0⟩ rl (dN, no) (D1, listOf nv.toArray 0) (L' + 1, oC) (mrul rl (mnum a0 D1 (3 + ts.length) tcT y' stT m.x M0)))
      (by exact rfl) M'.id (by passes_own) (.inl fun _ _ => rfl) F8 N8 (.mk [.ref x9] 0 _ nd9 _ _ _ _ rfl (.cons hR9 .nil) rfl rfl hAr (mapE4 fun _ _ _ _ _ => rfl)) ?turn2 ?done2
    case turn2 =>
      intro i v m1 nx h5 tk5 I oI hvi hJ hnx F5 N5
      refine hideT fun Qt hQt => ?_
      obtain ⟨rv, re, rs, nd, b0, c0, d0, e0, rfl, hrv, hrl, hrun, hAn, rfl⟩ := hJ
      obtain ⟨D, hDi, hDo⟩ := M'.dS.at i v hvi
      obtain ⟨x1, rfl, hop⟩ := hDo.opens
      obtain ⟨d1, la1, k1, k2, k3, k4, k5, k6, lt, nt, bt, pv, av, rs1, hI1, hl1, hrs1, hpv1, hav, hha⟩ := hop
      have hDm := List.mem_of_getElem? hDi
      obtain ⟨hDr, hDz⟩ := Sd.right D hDm
      have i0 : @Ne Nat rl I := hnx _ (.head _)
      have i1 : @Ne Nat dN I := hnx _ (.tail _ (.head _))
      have i2 : @Ne Nat D1 I := hnx _ (.tail _ (.tail _ (.head _)))
      have i3 : @Ne Nat (L' + 1) I := hnx _ (.tail _ (.tail _ (.tail _ (.head _))))
      have i4 : ∀ p ∈ nd, p.1 ≠ I := fun p hp => hnx p (.tail _ (.tail _ (.tail _ (.tail _ hp))))
      have hrz := hrs1.length
      have hrvz := hrv.len
      have hiz : i < ds.length := (List.getElem?_eq_some_iff.mp hvi).1
      k_steps
      refine loopB (fun j mm nx => nx = (I, oI) :: (rl, listOf rv.toArray re) :: (dN, no) :: (D1, listOf nv.toArray 0) :: (L' + 1, oC) :: nd ∧ (∀ k y, k < j → D.right[k]? = some y → (numGet (numOf S) y).isNone = false) ∧ ∃ c1, mm = fun y => if y = Str.ofString "name" then c1 else if y = Str.ofString "draft" then some (.ref x1) else if y = Str.ofString "right" then d0 else if y = Str.ofString "level_of" then e0 else mrul rl (mnum a0 D1 (3 + ts.length) tcT y' stT m.x M0) y)
        (by exact rfl) hl1 (by passes_own) (.inl fun _ _ => rfl) (by k_asm) (by k_asm) ⟨rfl, fun k y hk => absurd hk (Nat.not_lt_zero _), _, mapE1 fun y hy => by
          by_cases h9 : y = Str.ofString "draft"
          · simp only [if_pos h9]
          · simp only [if_neg h9, if_neg hy]⟩ ?turn3 ?done3
      case turn3 =>
        intro j v m1 nx h5 tk5 I2 oI2 hvj hJ hnx2 F5 N5
        refine hideT fun Qt hQt => ?_
        obtain ⟨rfl, hpre, c1, rfl⟩ := hJ
        obtain ⟨x5, t5, rfl, hnj⟩ := strs_at hrs1 hvj
        have hl5 := (hDr x5 (List.mem_of_getElem? hnj)).1
        k_steps
        · k_extra "geOutX"
          exact err (made_noneR hst' hks (by rw [q5]) hrun hDi fun n => draft_no1 hnj (by with_reducible assumption)) e h2 tk' fl
        · refine hQt _ _ ?_
          show TEnd _ _ _ _ _ _ _
          refine tEnd (nx' := (I, oI) :: (rl, listOf rv.toArray re) :: (dN, no) :: (D1, listOf nv.toArray 0) :: (L' + 1, oC) :: nd) (by k_asm) (by k_asm) hnx2 ?_
          refine ⟨rfl, fun k y hk hy => ?_, _, mapE1 fun y hy => by simp only [if_neg hy]⟩
          rcases Nat.lt_or_ge k j with q | q
          · exact hpre k y q hy
          · obtain rfl : k = j := by omega
            rw [hnj] at hy; cases hy; with_reducible assumption
      case done3 =>
        intro m1 nx h6 tk6 hJ F6 N6
        obtain ⟨rfl, hpre, c1, rfl⟩ := hJ
        have hrn := rights_ok hrz hpre
        obtain ⟨kl, hkl⟩ := numOf_left (Sd.left D hDm)
        obtain ⟨ul, hvl⟩ := nums_some hkn hkl
        k_steps
        refine LCg.CompSrc.base (by exact rfl) (by k_asm) (by k_asm) hl1 (by rw [sizeLine_eq, List.size_toArray]; omega) ?_
        intro g8
        refine compRestJ (n := rs1.toArray.size) (fun i2 ys nx => nx = (I, oI) :: (rl, listOf rv.toArray re) :: (dN, no) :: (D1, listOf nv.toArray 0) :: (L' + 1, oC) :: nd ∧ IntsAre ys ((D.right.take i2).map fun x => (numGet (numOf S) x).getD 0)) ?turn4 ?done4 rs1.toArray.size 0 [] _ (by omega) ⟨rfl, .nil⟩
        case turn4 =>
          intro i2 v ys nx I3 oI3 C3 oC3 D3 m₂ h tk E' hi hP hJ hC hx F N off ne
          refine hideC fun Qt hQt => ?_
          obtain ⟨rfl, hys⟩ := hJ
          obtain ⟨x5, t5, rfl, hnj⟩ := strs_at hrs1 (i := i2) (by simpa using hP)
          obtain ⟨k5, hk5⟩ := num_of (hpre i2 x5 (by rw [List.size_toArray] at hi; exact hi) hnj)
          obtain ⟨u5, hv5⟩ := nums_some hkn hk5
          k_steps
          refine hQt _ _ ?_
          exact LCg.CompEnd.intro (by k_asm) (by k_asm) ((I, oI) :: (rl, listOf rv.toArray re) :: (dN, no) :: (D1, listOf nv.toArray 0) :: (L' + 1, oC) :: nd) (fun p hp => hp) off (.inl hl1) ⟨rfl, map_more hys hnj hk5⟩
        case done4 =>
          rintro ys nx ⟨rfl, hys⟩
          intro D3 h' tk' F' N' o1
          rw [List.size_toArray] at hys
          have hysI := map_all hys hrz
          have hyz := hysI.length
          rw [List.length_map] at hyz
          dsimp only [LCg.lst] at N'
          k_steps
          refine hQt _ _ ?_
          show TEnd _ _ _ _ _ _ _
          refine tEnd (nx' := (rl, listOf (rv ++ [Value.ref x9]).toArray (re + 1)) :: (dN, no) :: (D1, listOf nv.toArray 0) :: (L' + 1, oC) :: (nd9 ++ nd)) (by k_asm) (by k_asm) (List.forall_mem_cons.mpr ⟨i0, List.forall_mem_cons.mpr ⟨i1, List.forall_mem_cons.mpr ⟨i2, List.forall_mem_cons.mpr ⟨i3, List.forall_mem_append.mpr ⟨fun p hp e => hA9 p hp _ (.head _) e.symm, i4⟩⟩⟩⟩⟩) ?_
          refine .mk (rv ++ [.ref x9]) (re + 1) (rs ++ [_]) (nd9 ++ nd) _ _ _ _ rfl (All2.append (hrv.mono fun _ _ => RuleOn.mono fun a o hm => List.mem_append.mpr (.inr hm)) (.cons (hR9.mono fun a o hm => List.mem_append.mpr (.inl hm)) .nil)) (by rw [List.length_append, hrl]; rfl) (run_next hrun hDi hrn hlv9 hkl (by rw [hrvz])) (AllNe.app (AllNe.of_off (List.forall_mem_cons.mpr ⟨fun p hp e => hA9 p hp _ (.tail _ (.head _)) e.symm, List.forall_mem_cons.mpr ⟨fun p hp e => hA9 p hp _ (.tail _ (.tail _ (.head _))) e.symm, List.forall_mem_cons.mpr ⟨fun p hp e => hA9 p hp _ (.tail _ (.tail _ (.tail _ (.head _)))) e.symm, List.forall_mem_cons.mpr ⟨fun p hp e => hA9 p hp _ (.tail _ (.tail _ (.tail _ (.tail _ (.head _))))) e.symm, List.forall_mem_nil _⟩⟩⟩⟩)) hAn) (mapE4 fun y z1 z2 z3 z4 => by simp only [if_neg z1, if_neg z2, if_neg z3, if_neg z4])
    case done2 =>
      intro m1 nx h6 tk6 hJ F6 N6
      obtain ⟨rv, re, rs, nd, b0, c0, d0, e0, rfl, hrv, hrl, hrun, hAn, rfl⟩ := hJ
      rw [q2] at hrun
      have hrvz := hrv.len
      have hlvD : g'.DictOf (_root_.PySem.strKind prg w) m.lv kvs := Heap.dictOf_iff.mpr ⟨lo, M'.iv, M'.vd⟩
      have hlvN := dict_nodup M'.vd
      have hkvz := hlv.len
      k_steps
      refine levels_clean (by k_asm) (by k_asm) (by with_reducible assumption) (by with_reducible assumption) (by with_reducible assumption) ?_
      intro dL oL F8 N8 hoL0 hsL hTL
      refine loopD (knd := _root_.PySem.strKind prg w) (fun i mm nx => ∃ oL lk c1, nx = (dL, oL) :: (rl, listOf rv.toArray re) :: (dN, no) :: (D1, listOf nv.toArray 0) :: (L' + 1, oC) :: nd ∧ oL.IsDictOf (intKind prg w) lk ∧ KvOn (LvV PP) lk (lvlsTo (numOf S) (S.lv.take i)) ∧ lk.length ≤ i ∧
          mm = fun y => if y = Str.ofString "name" then c1 else if y = Str.ofString "levels" then some (.ref dL) else if y = Str.ofString "draft" then b0 else if y = Str.ofString "right" then d0 else if y = Str.ofString "level_of" then e0 else mrul rl (mnum a0 D1 (3 + ts.length) tcT y' stT m.x M0) y)
        (by exact rfl) hlvD M'.vs (by passes_own) (fun _ _ => rfl) F8 N8 ⟨oL, [], _, rfl, hoL0, .nil, Nat.le_refl _, mapE1 fun y hy => by
          by_cases z1 : y = Str.ofString "levels"
          · simp only [if_pos z1]
          · by_cases z2 : y = Str.ofString "draft"
            · simp only [if_neg z1, if_pos z2]
            · simp only [if_neg z1, if_neg z2, if_neg hy]⟩ ?turn5 ?done5
      case turn5 =>
        intro i k x v m1 nx h5 tk5 I oI hkx hk hJ hnx F5 N5
        refine hideT fun Qt hQt => ?_
        obtain ⟨oL, lk, c1, rfl, hoL, hlk, hlz, rfl⟩ := hJ
        obtain ⟨tk9, rfl⟩ := Value.isStrOf_shape hk
        obtain ⟨q, hq, hqe, a9, u1, u2, hxa, hPa⟩ := hlv.at i _ hkx
        dsimp only at hqe hxa
        subst hqe hxa
        obtain ⟨k9, hk9⟩ := numOf_lv (Sd.lvn q (List.mem_of_getElem? hq)).1
        obtain ⟨u9, hv9⟩ := nums_some hkn hk9
        have hvk := value_nodup hlvN hkx
        have i0 : @Ne Nat dL I := hnx _ (.head _)
        have hiv : i < kvs.length := (List.getElem?_eq_some_iff.mp hkx).1
        k_steps
        refine hQt _ _ ?_
        show TEnd _ _ _ _ _ _ _
        refine tEnd (nx' := (dL, o') :: (rl, listOf rv.toArray re) :: (dN, no) :: (D1, listOf nv.toArray 0) :: (L' + 1, oC) :: nd) (by k_asm) (by k_asm) (List.forall_mem_cons.mpr ⟨i0, fun p hp => hnx p (.tail _ hp)⟩) ?_
        exact ⟨o', _, _, rfl, hd', lv_set hlk hq hk9 hPa, stored_len hlz, mapE1 fun y hy => by simp only [if_neg hy]⟩
      case done5 =>
        intro m1 nx h7 tk7 hJ F7 N7
        obtain ⟨oL, lk, c1, rfl, hoL, hlk, hlz, rfl⟩ := hJ
        rw [hkvz, List.take_length] at hlk
        have hxh := OptI.handed M'.oE
        k_steps
        try dsimp only
        exact leaveC (by k_asm) (by k_asm) fun kp nw => ret _ _ _ nd9 kp nw ⟨_, made_some hst' hks (by rw [q5]) hrun, hG9⟩
end
theorem words_B36 : True := by
  trivial
theorem KvOn.keys {κ ν : Type} [DecidableEq κ] {R : Value → ν → Prop} {kvs : List (κ × Value)} {nm : List (κ × ν)} (h : KvOn R kvs nm) : kvs.map (·.1) = nm.map (·.1) := by
  induction h with
  | nil => rfl
  | cons r _ ih => rw [List.map_cons, List.map_cons, r.1, ih]
theorem KvOn.has {κ ν : Type} [DecidableEq κ] {R : Value → ν → Prop} {kvs : List (κ × Value)} {nm : List (κ × ν)} (h : KvOn R kvs nm) {k : κ} (hk : k ∈ nm.map (·.1)) : ∃ u v, getL nm k = some u ∧ valueAt kvs k = some v ∧ R v u := by
  rcases h.at k with ⟨a, _⟩ | q
  · rw [getL] at a
    obtain ⟨q, hq, rfl⟩ := List.mem_map.mp hk
    cases e : nm.find? (fun z => decide (z.1 = q.1)) with
    | none => exact absurd (List.find?_eq_none.mp e q hq) (by simp)
    | some z => rw [e] at a; cases a
  · exact q
theorem ints_at {vs : List Value} {ns : List Int} (h : IntsAre vs ns) {i : Nat} {v : Value} (e : vs[i]? = some v) : ∃ k t, v = .int k t ∧ ns[i]? = some k := by
  obtain ⟨k, t, a, b⟩ := IntsAre.at h i v e
  exact ⟨k, t, a, b⟩
theorem told_dat {P : Mp} {G : GramD} {D D1 D2 D3 : Addr} {tt t9 : Tok} {ex : Value} {nv ys ys2 : List Value} (h0 : P D (tupO [.ref D1, .int G.tc tt, .ref D2, .ref D3, ex, .int G.start t9])) (h1 : P D1 (tupO nv)) (h2 : P D2 (tupO ys2)) (h3 : P D3 (tupO ys)) (hnv : StrsAre nv G.names)
    (hr : All2 (DatOn P) ys2 (G.rules.map ruleDat)) (hl : All2 (DatOn P) ys ((keysOf G.levels).map (lvDat G.levels))) (hex : OptI ex G.ex) : DatOn P (.ref D) (toldDat G) :=
  .tup h0 (.cons (.tup h1 (DatOn.strs hnv)) (.cons .int (.cons (.tup h2 hr) (.cons (.tup h3 hl) (.cons (DatOn.optI hex) (.cons .int .nil))))))
noncomputable def PlusP (nd : List (Addr × Obj)) (P : Mp) : Mp := fun a o => (a, o) ∈ nd ∨ P a o
theorem dat_mono {P P' : Mp} {vs : List Value} {ds : List PyData} (k : ∀ a o, P a o → P' a o) (h : All2 (DatOn P) vs ds) : All2 (DatOn P') vs ds := h.mono fun _ _ r => r.mono k
theorem lv_dat {P : Mp} {ls : List (Int × (Int × Str))} {k : Int} {t : Tok} {D : Addr} {v : Value} {q : Int × Str} (hg : getL ls k = some q) (hv : LvV P v q) (hD : P D (tupO [.int k t, v])) : DatOn P (.ref D) (lvDat ls k) := by
  obtain ⟨a, t1, t2, rfl, ha⟩ := hv
  rw [lvDat, hg]
  exact .tup hD (.cons .int (.cons (.tup ha (.cons .int (.cons .str .nil))) .nil))
theorem rule_dat {P : Mp} {R : RuleD} {a r : Addr} {t2 t4 t7 : Tok} {av : Value} {rs : List Value} (ha : P a (tupO [.int R.left t2, .ref r, .int R.level t4, av, .int R.before t7])) (hr : P r (tupO rs)) (hi : IntsAre rs R.right) (hv : OptS av R.action) : DatOn P (.ref a) (ruleDat R) :=
  .tup ha (.cons .int (.cons (.tup hr (DatOn.ints hi)) (.cons .int (.cons (.optS hv) (.cons .int .nil)))))
theorem comp_tail {g h' : Heap} {L I C D l : Addr} {m : Str → Option Value} {oI oC oD o : Obj} {q1 q2 : Addr × Obj} {nd : List (Addr × Obj)} {s₁ : Shared} {tk : Nat} {S : List (Addr × Obj) → Prop} {rest : Value → List (Addr × Obj) → Prop} {y : Value}
    (F : Fr g L h' m) (N : News g L h' ((l, o) :: (I, oI) :: (C, oC) :: (D, oD) :: q1 :: q2 :: nd)) (l1 : ∀ p ∈ (I, oI) :: (C, oC) :: (D, oD) :: q1 :: q2 :: nd, p.1 ≠ l) (off : LCg.Off3 I C D (q1 :: q2 :: nd)) (hS : S (q1 :: q2 :: (l, o) :: nd)) (r : rest y (q1 :: q2 :: (l, o) :: nd)) :
    LCg.CompEnd g L m s₁ I oI C oC D oD S rest y { s₁ with heap := h', toks := tk } :=
  LCg.CompEnd.intro F N (q1 :: q2 :: (l, o) :: nd) (fun p hp => by
    simp only [List.mem_cons] at hp ⊢
    rcases hp with h | h | h | h | h | h | h <;> simp [h]) ⟨off.1, off.2.1, ⟨fun e => l1 _ (.head _) e.symm, fun e => l1 _ (.tail _ (.head _)) e.symm, fun e => l1 _ (.tail _ (.tail _ (.head _))) e.symm⟩, off.2.2⟩ hS r
theorem plus_more {P : Mp} {nd : List (Addr × Obj)} {q : Addr × Obj} : ∀ a o, PlusP nd P a o → PlusP (q :: nd) P a o := fun a o h => h.elim (fun h => .inl (.tail _ h)) .inr
theorem plus_tail5 {P : Mp} {nd : List (Addr × Obj)} {q1 q2 q3 q4 q5 : Addr × Obj} : ∀ a o, PlusP nd P a o → PlusP (q1 :: q2 :: q3 :: q4 :: q5 :: nd) P a o := fun a o h => h.elim (fun h => .inl (.tail _ (.tail _ (.tail _ (.tail _ (.tail _ h)))))) .inr
theorem lv_more {P : Mp} {nd : List (Addr × Obj)} {q : Addr × Obj} {ys : List Value} {ls : List Int} {f : Int → PyData} {i : Nat} {k : Int} {y : Value} (h : All2 (DatOn (PlusP nd P)) ys ((ls.take i).map f)) (e : ls[i]? = some k) (hy : DatOn (PlusP (q :: nd) P) y (f k)) : All2 (DatOn (PlusP (q :: nd) P)) (ys ++ [y]) ((ls.take (i + 1)).map f) := by
  rw [take_more e, List.map_append]
  exact All2.append (dat_mono plus_more h) (.cons hy .nil)
theorem rule_more {P : Mp} {nd : List (Addr × Obj)} {q : Addr × Obj} {ys : List Value} {ls : List RuleD} {f : RuleD → PyData} {i : Nat} {k : RuleD} {y : Value} (h : All2 (DatOn (PlusP nd P)) ys ((ls.take i).map f)) (e : ls[i]? = some k) (hy : DatOn (PlusP (q :: nd) P) y (f k)) : All2 (DatOn (PlusP (q :: nd) P)) (ys ++ [y]) ((ls.take (i + 1)).map f) := by
  rw [take_more e, List.map_append]
  exact All2.append (dat_mono plus_more h) (.cons hy .nil)
theorem lv_full {α : Type} {R : Value → PyData → Prop} {ys : List Value} {ls : List α} {f : α → PyData} {n : Nat} (h : All2 R ys ((ls.take n).map f)) (e : n = ls.length) : All2 R ys (ls.map f) := by
  rw [e, List.take_length] at h; exact h
theorem RuleOn.ref {w : World} {P : Mp} {v : Value} {R : RuleD} (h : RuleOn w P v R) : ∃ x, v = .ref x := by obtain ⟨x, _, _, _, _, _, _, _, _, _, _, _, _, _, _, _, _, e, _⟩ := h; exact ⟨x, e⟩
theorem drop_2b {α : Type} {a b c : α} {l : List α} : ∀ p ∈ a :: c :: l, p ∈ a :: b :: c :: l := fun p hp => by
  rcases List.mem_cons.mp hp with rfl | hp
  · exact .head _
  · exact .tail _ (.tail _ hp)
section
variable {w : World} {loose : List Str} {mean : ExcName → Option Value} {mg mb : Str → Option Value} {base : Heap} {PP : Mp}
section
variable {A A₀ : Around} {env : Env} {E : Value → Shared → Prop} {hp : Heap} {gn : Array GenState} {dr : Drawn} {tk : Nat} {os : OsState} {g : Heap} {L a D d : Addr} {m : Str → Option Value} {news : List (Addr × Obj)} {Q : Value → Shared → Prop} {frs : List Env} {dp un : Nat} {gd : Option (List Code)}
theorem base_itemI {kn : List (Int × Value)} {x : Int} {t : Tok} {v : Value} {value slice : PySem.Expr} (hd : hp.DictOf (intKind prg w) d kn) (hl : valueAt kn x = some v) (h : Q v ⟨hp, gn, dr, tk + 1, os⟩) (hs : subscripted slice false (.ref d) (.int x t) = operate [.ref d, .int x t] (getItem (.ref d) (.int x t)) := by with_unfolding_all rfl) :
    wpAny (model prg w) A (subscriptTail value slice (.ref d) (.int x t)) Q E ⟨hp, gn, dr, tk, os⟩ :=
  tail_any hd.typeIs PySem.F.slot_dict_getitem.lookup (wpAny_getItem_of (s := ⟨hp, gn, dr, tk, os⟩) (intIs x t) hd.mapOf hl h) hs
theorem tup_base {us : List Value} (F : Fr g L hp m) (N : News g L hp news) (hl : hp.IsList a us.toArray) (hz : us.length < 10000)
    (h : ∀ D h', Fr g L h' m → News g L h' ((D, tupO us) :: news) → (∀ p ∈ news, p.1 < D) → Q (.ref D) ⟨h', gn, dr, tk, os⟩) : wpAny (model prg w) A (call (.type "tuple") [.ref a]) Q E ⟨hp, gn, dr, tk, os⟩ :=
  kde_tupleOf (s := ⟨hp, gn, dr, tk, os⟩) F N hl (by rw [List.size_toArray]; omega) rfl h
theorem told_use {v : Value} {R : RuleD} (hR : RuleOn w PP v R) (hP : ∀ a o, PP a o → g.get? a = some o)
    (X : (frag.heap_1 w.params).In base) (T : Top view loose mean mg mb base) (B : Below A₀ base frs g) (F : Fr g L hp m) (N : News g L hp news)
    (hA : A = Ar dp un gd (env :: frs)) (hL : env.frame = some L) (hke : env.scope.kind ≠ .module) (hd : dp + 2 < recursionLimit) (hu : un + 8 * 2 < cLine)
    (ret : ∀ a r t2 t4 t7 av rs h' tk', Fr g L h' m → News g L h' ((a, tupO [.int R.left t2, .ref r, .int R.level t4, av, .int R.before t7]) :: news) → (∀ p ∈ news, p.1 ≠ a) → PP r (tupO (rs : List Value)) → IntsAre rs R.right → OptS av R.action → Q (.ref a) ⟨h', gn, dr, tk', os⟩) :
    wpAny (model prg w) A (call (.ref 173) [v]) Q E ⟨hp, gn, dr, tk, os⟩ :=
  useP (s := ⟨hp, gn, dr, tk, os⟩) (m := m) (fun _ => rule_told hR fun a o h => F.keep a o (hP a o h)) X T B F N hA hL hke hd hu Pick.nil (allNe_nil _) (fun v h' tk' news' F' N' hf _ po => by
    obtain ⟨a, r, t2, t4, t7, av, rs, rfl, rfl, h1, h2, h3⟩ := po
    exact ret a r t2 t4 t7 av rs h' tk' F' N' (fun p hp => (hf _ (.head _)).resolve_left (fun z => nomatch z) p hp) h1 h2 h3) fun f => f.elim
end
theorem words_B36b : True := by
  k_with "subscriptTail" => ((try dsimp only); (with_reducible show wpAny _ _ (subscriptTail _ _ (Value.ref _) (Value.int _ _)) _ _ _); k_dflt (refine' base_itemI ?bid ?bil ?_; (case bid => exact DictOf_Fr (by k_asm) (by with_reducible assumption)); (case bil => with_reducible assumption)))
  k_with "call builtin:sorted" => ((try dsimp only); (with_reducible show wpAny _ _ (call (Value.builtin "sorted") [Value.ref _]) _ _ _); k_dflt (refine' sorted_ints ?soH ?soF ?soN ?soD hsl ?soz ?_; (case soH => exact rfl); (case soF => k_asm); (case soN => k_asm); (case soD => exact DictOf_Fr (by k_asm) (by with_reducible assumption)); (case soz => omega)); intro D' h' tk' out eo F' N' l1 hout)
  k_with "call ref" => ((try dsimp only); k_dflt (
    (with_reducible show wpAny _ _ (call (Value.ref 173) _) _ _ _)
    (refine' told_use hRo hPg X T B' ?F ?N ?A ?L ?K ?d ?u ?_)
    (case F => k_asm)
    (case N => k_asm)
    (case A => exact rfl)
    (case L => exact rfl)
    (case K => intro h9; cases h9)
    (case d => ktr_room)
    (case u => ktr_units)
    intro a9 r9 t29 t49 t79 av9 rs9 h' tk' F' N' hna hPr hir hav))
  k_with "call type:tuple" => ((try dsimp only); k_dflt (first | (refine' tup_of ?tuF ?tuN ?tuz ?_; (case tuF => k_asm); (case tuN => k_asm); (case tuz => omega)) | (refine' tup_base ?tuF ?tuN ?tul ?tuz ?_; (case tuF => k_asm); (case tuN => k_asm); (case tul => exact IsList_Fr (by k_asm) (by with_reducible assumption)); (case tuz => omega))); intro D' h' F' N' l1)
  trivial
theorem told_walk {h : Heap} {v : Value} {GD : GramD} (hG : GramOn w PP v GD) (hPP : ∀ a o, PP a o → h.get? a = some o) (z1 : GD.rules.length < 900) (z2 : GD.names.length < 900) (z3 : GD.levels.length < 60) :
    Spec w loose mean mg mb base 178 [v] 6 h [] (fun u n => (∃ a, u = .ref a) ∧ DatOn (PlusP n PP) u (toldDat GD)) False := by
  obtain ⟨x, d, nl, rl, ld, ks, b, f, o, i, tt, t9, ex, nv, ne, rv, re, lo, lkvs, rfl, hx, hd9, hnl, hnv, hrl, hrv, hld, hlo, hsl, hlv, hex⟩ := hG
  have hI0 : InstAt h x (instObj 162 d) 162 (some (dictOf (gattrs w ks (.ref nl) (.int GD.tc tt) (.ref rl) (.ref ld) ex (.int GD.start t9) b f o i) 10)) := ⟨hPP _ _ hx, rfl, rfl, hPP _ _ hd9⟩
  have fp := fp_nil (base := base) (h := h)
  have hxh := OptI.handed hex
  have hlkz := hlv.len
  have hkeys := hlv.keys
  have hnz := hnv.length
  have hrz := hrv.len
  top_name
  have hPg : ∀ a o, PP a o → g'.get? a = some o := fun a o e => gk' a o (hPP a o e) (fun z => (nomatch z))
  have hI := InstAt_mono (g := g') (fun b o e => gk' b o e (fun z => (nomatch z))) hI0
  have hlD : g'.DictOf (intKind prg w) ld lkvs := Heap.dictOf_iff.mpr ⟨lo, hPg _ _ hld, hlo⟩
  have hnL : g'.IsList nl nv.toArray := ⟨_, hPg _ _ hnl, rfl, _, rfl⟩
  have hrL : g'.IsList rl rv.toArray := ⟨_, hPg _ _ hrl, rfl, _, rfl⟩
  k_steps
  obtain ⟨oC, hoC⟩ := third_obj2 N'
  subst hoC
  have hoz : out.length = lkvs.length := by rw [hout.length, List.length_mergeSort, List.length_map]
  rw [hkeys] at hout
  refine LCg.CompSrc.ledger (by exact rfl) F' N' (.head _) (by rw [sizeLine_eq, List.size_toArray]; omega) ?_
  intro g8
  refine compRestJ (n := out.toArray.size) (fun i ys nx => ∃ nd, nx = (D', listOf out.toArray eo) :: (L' + 1, oC) :: nd ∧ All2 (DatOn (PlusP nd PP)) ys (((keysOf GD.levels).take i).map (lvDat GD.levels))) ?turn ?done out.toArray.size 0 [] _ (by omega) ⟨[], rfl, .nil⟩
  case turn =>
    intro i v ys nx I oI C oCm D m₂ h tk E' hi hP hJ hC hx F N off ne
    refine hideC fun Qt hQt => ?_
    obtain ⟨nd, rfl, hys⟩ := hJ
    obtain ⟨k, u, rfl, hki⟩ := ints_at hout (i := i) (by simpa using hP)
    obtain ⟨q, val, hgq, hvk, a9, u1, u2, rfl, ha9⟩ := hlv.has (k := k) ((List.mergeSort_perm _ _).mem_iff.mp (List.mem_of_getElem? hki))
    clear N' F'
    k_steps
    refine hQt _ _ ?_
    exact comp_tail (by k_asm) (by k_asm) (fun p hp => Nat.ne_of_lt ((by with_reducible assumption : ∀ p ∈ _, p.1 < _) p hp)) off (.inr ⟨_, .head _, rfl, _, rfl⟩) ⟨_, rfl, lv_more hys hki (lv_dat hgq ⟨a9, u1, u2, rfl, .inr ha9⟩ (.inl (.head _)))⟩
  case done =>
    rintro ys nx ⟨nd, rfl, hys⟩
    clear N' F'
    intro D3 h' tk' F' N' o1
    rw [List.size_toArray] at hys
    have hyz := hys.len
    rw [List.length_map, List.length_take] at hyz
    dsimp only [LCg.lst] at N'
    k_steps
    have hyK := lv_full hys (by rw [hout.length, keysOf])
    refine LCg.CompSrc.base (by exact rfl) (by k_asm) (News.subl (by k_asm) drop_2b) hrL (by rw [sizeLine_eq, List.size_toArray]; omega) ?_
    intro g8
    obtain ⟨Dt, hDt⟩ := first_adr (by k_asm)
    refine compRestJ (n := rv.toArray.size) (fun i ys2 nx => ∃ nd2, nx = (Dt, tupO ys) :: (L' + 1, oC) :: nd2 ∧ All2 (DatOn (PlusP nd2 PP)) ys ((keysOf GD.levels).map (lvDat GD.levels)) ∧ All2 (DatOn (PlusP nd2 PP)) ys2 ((GD.rules.take i).map ruleDat)) ?turn2 ?done2 rv.toArray.size 0 [] _ (by omega) ⟨nd, by rw [hDt], hyK, .nil⟩
    case turn2 =>
      intro i v ys2 nx I oI C oCm D m₂ h tk E' hi hP hJ hC hx F N off ne
      refine hideC fun Qt hQt => ?_
      obtain ⟨nd2, rfl, hys1, hys2⟩ := hJ
      obtain ⟨R1, hRi, hRo⟩ := hrv.at i v (by simpa using hP)
      obtain ⟨x1, rfl⟩ := hRo.ref
      k_steps
      refine hQt _ _ ?_
      exact comp_tail (by k_asm) (by k_asm) hna off (.inl hrL) ⟨_, rfl, dat_mono plus_more hys1, rule_more hys2 hRi (rule_dat (.inl (.head _)) (.inr hPr) hir hav)⟩
    case done2 =>
      rintro ys2 nx ⟨nd2, rfl, hys1, hys2⟩
      intro D4 h' tk' F' N' o2
      rw [List.size_toArray] at hys2
      have hyz2 := hys2.len
      rw [List.length_map, List.length_take] at hyz2
      dsimp only [LCg.lst] at N'
      k_steps
      try dsimp only
      subst hDt
      exact leaveC (by k_asm) (by k_asm) fun kp nw => ret _ _ _ _ kp nw ⟨⟨_, rfl⟩, told_dat (.inl (.head _)) (.inl (.tail _ (.head _))) (.inl (.tail _ (.tail _ (.head _)))) (.inl (.tail _ (.tail _ (.tail _ (.head _))))) hnv (dat_mono plus_tail5 (lv_full hys2 hrv.len)) (dat_mono plus_tail5 hys1) hex⟩
end
theorem words_B37 : True := by
  k_with "compareOp NotIn str ref" =>
    (k_dflt (refine' sides_in ?X ?_; (case X => exact Frag.In.keeps X' (Fr.keep (by k_asm)))))
  k_with "compareOp In str ref" =>
    (k_dflt (refine' in_lv ?lvN ?lvp ?lvd ?lvk ?lvo ?_; (case lvN => k_asm); (case lvp => mem_news); (case lvd => assumption); (case lvk => assumption); (case lvo => assumption)))
  k_with "compareOp In str ref" =>
    (k_dflt (refine' in_slice ?lsN ?lsp ?lsn ?_; (case lsN => k_asm); (case lsp => mem_news); (case lsn => assumption)))
  k_with "setItem ref str" =>
    (k_dflt (refine' kda_set (knd := _root_.PySem.strKind _ _) ?ksF ?ksN ?ksU ?ksd (strKind_is _ _ _ _) ?ksz ?_; (case ksF => k_asm); (case ksN => k_asm); (case ksU => k_updF); (case ksd => k_asm); (case ksz => rw [sizeLine_eq]; omega)); intro h' o' F' N' hd'; (try dsimp only at N'))
  k_with "tlg_ne" =>
    (
      intro frs dp un gd s R hs G hap hd hu ret
      subst hs
      have X := G.X
      have T := G.T
      k_dflt (
        refine' enterT G _ ?k1 hap ?k3 ?k4 ?k5 ?k6 ?k8 ?k7 ?_ ?c2 ?c3 ?c4 ?c5
        (case k3 => k_is)
        (case k4 => k_is)
        (case k1 => assumption)
        (case k5 => omega)
        (case k6 => exact rfl)
        (case k8 => (refine' zr_of ?zra ?zrb; (case zra => (dsimp only [List.map_cons, List.map_nil]; try exact rfl)); (case zrb => first | exact zr1 | exact zr2 | exact zr3 | exact zr4 | exact zr5 | exact zr6 | exact zr7 | exact zr8)))
        (case k7 => exact locs rfl)
        (case c2 => exact rfl)
        (case c3 => exact rfl)
        (case c4 => exact rfl)
        (case c5 => decide)
        k_whole
        intro g' L' h' tk' gk' hkT hfT F' N' B' X' T'
        (try dsimp only [mled] at N')
        (try dsimp only)
        (try k_fold)))
  trivial
inductive GramOpen (w : World) (P : Mp) (x : Addr) (G : GramD) : Prop
  | mk (d nl rl ld : Addr) (ks : Nat → Tok) (b f o i : Value) (tt t9 : Tok) (ex : Value) (rv : List Value) (re : Nat) : P x (instObj 162 d) → P d (dictOf (gattrs w ks (.ref nl) (.int G.tc tt) (.ref rl) (.ref ld) ex (.int G.start t9) b f o i) 10) → P rl (listOf rv.toArray re) → All2 (RuleOn w P) rv G.rules → GramOpen w P x G
theorem GramOn.opens {w : World} {P : Mp} {v : Value} {G : GramD} (h : GramOn w P v G) : ∃ x, v = .ref x ∧ GramOpen w P x G := by
  obtain ⟨x, d, nl, rl, ld, ks, b, f, o, i, tt, t9, ex, nv, ne, rv, re, lo, lkvs, rfl, hx, hd9, hnl, hnv, hrl, hrv, _⟩ := h
  exact ⟨x, rfl, .mk d nl rl ld ks b f o i tt t9 ex rv re hx hd9 hrl hrv⟩
inductive RuleOpen (w : World) (P : Mp) (x : Addr) (R : RuleD) : Prop
  | mk (d r : Addr) (k1 k2 k3 k4 k5 k6 k7 t1 t2 t4 t6 t7 : Tok) (av : Value) : P x (instObj 80 d) → P d (dictOf (rattrs w k1 k2 k3 k4 k5 k6 k7 (.int R.number t1) (.int R.left t2) (.ref r) (.int R.level t4) av (.int R.line t6) (.int R.before t7)) 7) → RuleOpen w P x R
theorem RuleOn.opens {w : World} {P : Mp} {v : Value} {R : RuleD} (h : RuleOn w P v R) : ∃ x, v = .ref x ∧ RuleOpen w P x R := by
  obtain ⟨x, d, r, k1, k2, k3, k4, k5, k6, k7, t1, t2, t4, t6, t7, av, rs, rfl, hx, hd9, _⟩ := h
  exact ⟨x, rfl, .mk d r k1 k2 k3 k4 k5 k6 k7 t1 t2 t4 t6 t7 av hx hd9⟩
theorem line_more {ys : List Value} {ls : List RuleD} {i : Nat} {R : RuleD} {t : Tok} (h : IntsAre ys ((ls.take i).map RuleD.line)) (e : ls[i]? = some R) : IntsAre (ys ++ [.int R.line t]) ((ls.take (i + 1)).map RuleD.line) := by
  rw [take_more e, List.map_append]
  exact ints_app h (.cons _ _ .nil)
theorem made_dat {P : Mp} {S : MS} {G : GramD} {D D2 : Addr} {v : Value} {ys : List Value} {n e : Nat} (hm : madeOf S = some G) (h0 : P D (tupO [v, .ref D2])) (h1 : DatOn P v (toldDat G)) (h2 : P D2 (listOf ys.toArray e)) (hy : IntsAre ys ((G.rules.take n).map RuleD.line)) (hn : n = G.rules.length) : DatOn P (.ref D) (madeDat S) := by
  rw [hn, List.take_length] at hy
  rw [madeDat, hm]
  have e1 : G.rules.map (fun R => PyData.int R.line) = (G.rules.map RuleD.line).map .int := by rw [List.map_map]; rfl
  dsimp only
  rw [e1]
  exact .tup h0 (.cons h1 (.cons (.list h2 (DatOn.ints hy)) .nil))
theorem made_nodat {P : Mp} {S : MS} (hm : madeOf S = none) : DatOn P .none (madeDat S) := by rw [madeDat, hm]; exact .none
theorem made_len {S : MS} {G : GramD} (h : madeOf S = some G) : G.rules.length = S.ds.length + 1 ∧ G.names = namesOf S ∧ G.levels.length ≤ S.lv.length := by
  have run_len : ∀ (nm : List (Str × Int)) (tc : Int) (ds : List DraftD) (acc rs : List RuleD), rulesRun nm tc ds acc = some rs → rs.length = acc.length + ds.length := by
    intro nm tc ds
    induction ds with
    | nil => intro acc rs h; rw [rulesRun] at h; cases h; rfl
    | cons D ds ih =>
      intro acc rs h
      rw [rulesRun] at h
      cases e : draftRule nm tc acc.length D with
      | none => rw [e] at h; cases h
      | some R =>
        rw [e] at h
        have := ih _ _ h
        rw [this, List.length_append, List.length_cons, List.length_cons, List.length_nil]; omega
  rw [madeOf] at h
  cases e1 : startOf S with
  | none => rw [e1] at h; cases h
  | some x =>
    rw [e1] at h
    dsimp only at h
    generalize hr : rulesRun (numOf S) (3 + S.ts.length) S.ds [⟨0, 3 + S.ts.length, [(numGet (numOf S) x).getD 0, 0], 0, none, 0, 0⟩] = ro at h
    cases ro with
    | none => cases h
    | some rs =>
      cases h
      refine ⟨?_, rfl, ?_⟩
      · rw [run_len _ _ _ _ _ hr]; simp only [List.length_cons, List.length_nil]; omega
      · exact Nat.le_trans (lvls_len S.lv []) (by simp)
theorem plus_two {P : Mp} {n8 nd : List (Addr × Obj)} {q1 q2 : Addr × Obj} : ∀ a o, PlusP n8 (PlusP nd P) a o → PlusP (q1 :: q2 :: (n8 ++ (nd ++ []))) P a o := fun a o h => by
  rcases h with h | h | h
  · exact .inl (.tail _ (.tail _ (List.mem_append.mpr (.inl h))))
  · exact .inl (.tail _ (.tail _ (List.mem_append.mpr (.inr (List.mem_append.mpr (.inl h))))))
  · exact .inr h
section
variable {w : World} {loose : List Str} {mean : ExcName → Option Value} {mg mb : Str → Option Value} {base : Heap} {PP : Mp}
section
variable {A A₀ : Around} {env : Env} {E : Value → Shared → Prop} {hp : Heap} {gn : Array GenState} {dr : Drawn} {tk : Nat} {os : OsState} {g : Heap} {L a D d : Addr} {m : Str → Option Value} {news nd : List (Addr × Obj)} {Q : Value → Shared → Prop} {frs : List Env} {dp un : Nat} {gd : Option (List Code)}
theorem plus_get (F : Fr g L hp m) (N : News g L hp news) (hs : ∀ p ∈ nd, p ∈ news) (hP : ∀ a o, PP a o → g.get? a = some o) : ∀ a o, PlusP nd PP a o → hp.get? a = some o := fun a o h => h.elim (fun h => (N _ (hs _ h)).1) fun h => F.keep a o (hP a o h)
theorem plus_inst {x C : Addr} {od : Obj} (h1 : PlusP nd PP x (instObj C d)) (h2 : PlusP nd PP d od) (F : Fr g L hp m) (N : News g L hp news) (hs : ∀ p ∈ nd, p ∈ news) (hP : ∀ a o, PP a o → g.get? a = some o) : InstAt hp x (instObj C d) C (some od) :=
  ⟨plus_get F N hs hP _ _ h1, rfl, rfl, plus_get F N hs hP _ _ h2⟩
theorem src_plus {l : Addr} {vs : List Value} {n : Nat} (h : PlusP nd PP l (listOf vs.toArray n)) (hs : ∀ p ∈ nd, p ∈ news) (hP : ∀ a o, PP a o → g.get? a = some o) : LCg.SrcAt g l vs.toArray news :=
  h.elim (fun h => .inr ⟨_, hs _ h, rfl, _, rfl⟩) fun h => .inl ⟨_, hP _ _ h, rfl, _, rfl⟩
theorem comp_src {env : Env} {elt : PySem.Expr} {x : Str} {scope : Scope} {cl : List (Str × Addr)} {Fin : Shared → List Value → List (Addr × Obj) → Prop} {ax : Addr} {its : Array Value} {s₁ : Shared} (hS : LCg.SrcAt g ax its news)
    (hh : A.handled = none) (F : Fr g L s₁.heap m) (N : News g L s₁.heap news) (hsz : its.size ≤ sizeLine)
    (h : ∀ g8, LCg.CompRest prg w A g L m env elt x scope cl { s₁ with heap := g8 } (LCg.SrcAt g ax its) (fun i v => its[i]? = some v) (Fin { s₁ with heap := g8 }) its.size 0 [] news) :
    LCg.CompSrc prg w A g L m env elt x scope cl Fin (.ref ax) s₁ := .inl ⟨ax, its, news, rfl, hh, F, N, hS, hsz, fun _ ⟨g, e⟩ => e ▸ h g⟩
theorem made_use {mk : MA} {S : MS} {lct mct : Tok} {st ex : Value} {ts : List Value} {lo : Obj} {ds ls : List Value} {kvs : List (Str × Value)} (M : MB w mk S lct mct st ex ts lo ds ls kvs g) (Z : MSm S) (Sd : SoundS S) (hP : ∀ a o, PP a o → g.get? a = some o) (hlv : LvsOn PP kvs S.lv) (zn : S.ts.length + S.ls.length < 800) (zd : S.ds.length < 800) (zv : S.lv.length < 60)
    (X : (frag.heap_1 w.params).In base) (T : Top view loose mean mg mb base) (B : Below A₀ base frs g) (F : Fr g L hp m) (N : News g L hp news)
    (hA : A = Ar dp un gd (env :: frs)) (hL : env.frame = some L) (hke : env.scope.kind ≠ .module) (hd : dp + 12 < recursionLimit) (hu : un + 8 * 12 < cLine)
    (ret : ∀ x h' tk' nd G, Fr g L h' m → News g L h' (nd ++ news) → madeOf S = some G → GramOn w (PlusP nd PP) (.ref x) G → GramOpen w (PlusP nd PP) x G → Q (.ref x) ⟨h', gn, dr, tk', os⟩)
    (err : madeOf S = none → ∀ e h' tk', Fly hp (env :: frs) e h' → E (.ref e) ⟨h', gn, dr, tk', os⟩) :
    wpAny (model prg w) A (call (.ref 332) [.ref mk.x]) Q E ⟨hp, gn, dr, tk, os⟩ :=
  useP (s := ⟨hp, gn, dr, tk, os⟩) (m := m) (fun _ => made_walk (M.mono fun a o e => F.keep a o e) Z Sd (fun a o h => F.keep a o (hP a o h)) hlv zn zd zv) X T B F N hA hL hke hd hu Pick.nil (allNe_nil _) (fun v h' tk' news' F' N' hf _ po => by
    obtain ⟨G, hm, hG⟩ := po
    obtain ⟨x, rfl, ho⟩ := GramOn.opens hG
    exact ret x h' tk' news' G F' N' hm hG ho) err
theorem told2_use {v : Value} {G : GramD} (hG : GramOn w (PlusP nd PP) v G) (hs : ∀ p ∈ nd, p ∈ news) (hP : ∀ a o, PP a o → g.get? a = some o) (z1 : G.rules.length < 900) (z2 : G.names.length < 900) (z3 : G.levels.length < 60)
    (X : (frag.heap_1 w.params).In base) (T : Top view loose mean mg mb base) (B : Below A₀ base frs g) (F : Fr g L hp m) (N : News g L hp news)
    (hA : A = Ar dp un gd (env :: frs)) (hL : env.frame = some L) (hke : env.scope.kind ≠ .module) (hd : dp + 6 < recursionLimit) (hu : un + 8 * 6 < cLine)
    (ret : ∀ x h' tk' n8, Fr g L h' m → News g L h' (n8 ++ news) → DatOn (PlusP n8 (PlusP nd PP)) (.ref x) (toldDat G) → Q (.ref x) ⟨h', gn, dr, tk', os⟩) :
    wpAny (model prg w) A (call (.ref 178) [v]) Q E ⟨hp, gn, dr, tk, os⟩ :=
  useP (s := ⟨hp, gn, dr, tk, os⟩) (m := m) (fun _ => told_walk hG (plus_get F N hs hP) z1 z2 z3) X T B F N hA hL hke hd hu Pick.nil (allNe_nil _) (fun v h' tk' news' F' N' hf _ po => by
    obtain ⟨⟨x, rfl⟩, po⟩ := po
    exact ret x h' tk' news' F' N' po) fun f => f.elim
end
theorem words_B37b : True := by
  k_with "nest_cls" => (
    (try dsimp only)
    refine caught_ge fl9 (by k_asm) (by k_asm) B' X T ?_
    intro h' g9 T9 F' N' B9 X9 T9')
  k_with "call ref" => ((try dsimp only); k_dflt (
    (with_reducible show wpAny _ _ (call (Value.ref 332) _) _ _ _)
    (refine' made_use M' Z Sd hPg hlv zn zd zv X T B' ?F ?N ?A ?L ?K ?d ?u ?tm ?te)
    (case F => k_asm)
    (case N => k_asm)
    (case A => exact rfl)
    (case L => exact rfl)
    (case K => intro h9; cases h9)
    (case d => ktr_room)
    (case u => ktr_units)
    (case' te => (intro hx9 e9 h9 tk9 fl9; k_extra "nest_cls"))
    (case' tm => (intro xg h' tk' nd GD F' N' hmk hGr hop; obtain ⟨d9, nl, rl, ld, ks, b9, f9, o9, i9, tt, t9, exv, rv, re, hgx, hgd, hgl, hgr⟩ := hop))))
  k_with "call ref" => ((try dsimp only); k_dflt (
    (with_reducible show wpAny _ _ (call (Value.ref 178) _) _ _ _)
    (refine' told2_use hGr ?tus hPg ?tz1 ?tz2 ?tz3 X T B' ?F ?N ?A ?L ?K ?d ?u ?_)
    (case F => k_asm)
    (case N => k_asm)
    (case tus => intro q hq; kat_tups)
    (case tz1 => have := (made_len hmk).1; omega)
    (case tz2 => rw [(made_len hmk).2.1, names_len]; omega)
    (case tz3 => have := (made_len hmk).2.2; omega)
    (case A => exact rfl)
    (case L => exact rfl)
    (case K => intro h9; cases h9)
    (case d => ktr_room)
    (case u => ktr_units)
    intro xt h' tk' n8 F' N' hTd))
  k_with "k_inst" => (exact plus_inst (by with_reducible assumption) (by with_reducible assumption) (by k_asm) (by k_asm) (by intro q hq; kat_tups) hPg)
  trivial
variable {h : Heap} {m : MA} {S : MS} {lct mct : Tok} {st ex : Value} {ts : List Value} {lo : Obj} {ds ls : List Value} {kvs : List (Str × Value)}
theorem law_made (M : MB w m S lct mct st ex ts lo ds ls kvs h) (Z : MSm S) (Sd : SoundS S) (hPP : ∀ a o, PP a o → h.get? a = some o) (hlv : LvsOn PP kvs S.lv) (zn : S.ts.length + S.ls.length < 800) (zd : S.ds.length < 800) (zv : S.lv.length < 60) :
    SpecT w loose mean mg mb base 382 [.ref m.x] 14 h [] (fun v n => DatOn (PlusP n PP) v (madeDat S)) := by
  have fp := fp_nil (base := base) (h := h)
  tlg_ne
  have M' := M.mono (g := g') fun b o e => gk' b o e (fun z => (nomatch z))
  have hPg : ∀ a o, PP a o → g'.get? a = some o := fun a o e => gk' a o (hPP a o e) (fun z => (nomatch z))
  have hI := M'.ix
  k_steps
  case te =>
    try dsimp only
    exact leaveT (hkT.turn T9) (hfT.turn T9) (by k_asm) (by k_asm) fun kp up nw => ret _ _ _ _ kp up nw (made_nodat hx9)
  have hS0 : LCg.SrcAt g' rl rv.toArray (n8 ++ (nd ++ [])) := src_plus hgl (by intro q hq; kat_tups) hPg
  have hrz := hgr.len
  have hrz2 := (made_len hmk).1
  refine comp_src hS0 (by exact rfl) (by k_asm) (by k_asm) (by rw [sizeLine_eq, List.size_toArray]; omega) ?_
  intro g8
  refine compRestJ (n := rv.toArray.size) (fun i ys nx => nx = n8 ++ (nd ++ []) ∧ IntsAre ys ((GD.rules.take i).map RuleD.line)) ?turn ?done rv.toArray.size 0 [] _ (by omega) ⟨rfl, .nil⟩
  case turn =>
    intro i v ys nx I oI C oC D m₂ h tk E' hi hP hJ hC hx F N off ne
    refine hideC fun Qt hQt => ?_
    obtain ⟨rfl, hys⟩ := hJ
    obtain ⟨R1, hRi, hRo⟩ := hgr.at i v (by simpa using hP)
    obtain ⟨x1, rfl, hro⟩ := hRo.opens
    obtain ⟨d1, r1, k1, k2, k3, k4, k5, k6, k7, t1, t2, t4, t6, t7, av, hrx, hrd⟩ := hro
    k_steps
    refine hQt _ _ ?_
    exact LCg.CompEnd.intro (by k_asm) (by k_asm) (n8 ++ (nd ++ [])) (fun p hp => hp) off hS0 ⟨rfl, line_more hys hRi⟩
  case done =>
    rintro ys nx ⟨rfl, hys⟩
    intro D3 h' tk' F' N' o1
    rw [List.size_toArray] at hys
    dsimp only [LCg.lst] at N'
    k_steps
    try dsimp only
    exact leaveT hkT hfT (by k_asm) (by k_asm) fun kp up nw => ret _ _ _ _ kp up nw (made_dat hmk (.inl (.head _)) (hTd.mono plus_two) (.inl (.tail _ (.head _))) hys (by omega))
end
theorem words_B38 : True := by
  trivial
theorem ink_sub {α : Type} {a b c : α} : ∀ p ∈ [a, b], p ∈ [a, b, c] := fun p hp => by
  simp only [List.mem_cons, List.not_mem_nil, or_false] at hp ⊢
  rcases hp with h | h <;> simp [h]
section
variable {w : World} {loose : List Str} {mean : ExcName → Option Value} {mg mb : Str → Option Value} {base : Heap}
theorem words_B38b : True := by
  trivial
noncomputable def InkPost (v : Value) (n : List (Addr × Obj)) : Prop := ∃ p c e cs xs n0 t1 t2, v = .ref p ∧ n = penL p c e 0 t1 0 t2 cs n0 ∧ IntsAre cs xs ∧ cs.length < 100 ∧ @LT.lt Nat instLTNat c p
theorem inkwell {h : Heap} {l : Addr} {vs : List Value} {ns : List Int} (hl : h.IsList l vs.toArray) (hi : IntsAre vs ns) (hz : vs.length < 64) :
    Spec w loose mean mg mb base 344 [.ref l] 4 h [] InkPost False := by
  have fp := fp_nil (base := base) (h := h)
  ktr_enter
  have hl' : g'.IsList l vs.toArray := hl.at fun o e => gk' _ o e (fun z => (nomatch z))
  k_steps
  rename_i D1 ws h1 F1 N1 l1 hI1 hC1 hL1
  have hwz := hI1.length
  have hnz := hi.length
  refine LCg.CompSrc.ledger (by exact rfl) F1 N1 (.head _) (by rw [sizeLine_eq, List.size_toArray]; omega) ?_
  intro g8
  refine compRestJ (n := ws.toArray.size) (fun i ys nx => nx = [(D1, listOf ws.toArray 0)] ∧ IntsAre ys ((ns.take 60).take i)) ?turn ?done ws.toArray.size 0 [] _ (by omega) ⟨rfl, .nil⟩
  case turn =>
    intro i v ys nx I oI C oCm D m₂ h tk E' hi9 hP hJ hC hx F N off ne
    refine hideC fun Qt hQt => ?_
    obtain ⟨rfl, hys⟩ := hJ
    obtain ⟨k, u, rfl, hki⟩ := ints_at hI1 (i := i) (by simpa using hP)
    k_steps
    refine hQt _ _ ?_
    exact LCg.CompEnd.intro (by k_asm) (by k_asm) [(D1, listOf ws.toArray 0)] (fun p hp => hp) off (.inr ⟨_, .head _, rfl, _, rfl⟩) ⟨rfl, by rw [take_more hki]; exact ints_app hys (.cons _ _ .nil)⟩
  case done =>
    rintro ys nx ⟨rfl, hys⟩
    intro D3 h' tk' F' N' o1
    rw [List.size_toArray] at hys
    dsimp only [LCg.lst] at N'
    have hyz := hys.length
    rw [List.length_take, List.length_take] at hyz
    k_steps
    exact leaveC (by k_asm) (by k_asm) fun kp nw => ret _ _ _ _ kp (nw.sub ink_sub) ⟨_, _, 0, ys, _, ys.length, _, _, rfl, rfl, hys, by omega, by k_extra "ltD"⟩
end
theorem words_B39 : True := by
  trivial
section
variable {w : World} {loose : List Str} {mean : ExcName → Option Value} {mg mb : Str → Option Value} {base : Heap}
theorem words_B39b : True := by
  trivial
noncomputable def MkPost (w : World) (x dx : Addr) (n : List (Addr × Obj)) : Prop := ∃ m : MA, m.x = x ∧ m.d = dx ∧ m.Ok ∧ (m.lv == sysModules) = false ∧ ∀ P, MkL w m S0 P n
theorem maker_perm {α : Type} {a b c d e f : α} : ∀ p ∈ [e, f, d, c, b, a], p ∈ [a, b, c, d, e, f] := fun p hp => by
  simp only [List.mem_cons, List.not_mem_nil, or_false] at hp ⊢
  rcases hp with h | h | h | h | h | h <;> simp [h]
theorem maker_post {x dx t lv dr lf : Addr} {k1 k2 k3 k4 k5 k6 k7 k8 c1 c2 : Tok} {o : Obj} (l1 : @LT.lt Nat instLTNat dx x) (l2 : @LT.lt Nat instLTNat x t) (l3 : @LT.lt Nat instLTNat t lv) (l4 : @LT.lt Nat instLTNat lv dr) (l5 : @LT.lt Nat instLTNat dr lf) (hs : (lv == sysModules) = false) (ho : o.IsDictOf (_root_.PySem.strKind prg w) []) :
    MkPost w x dx [(x, instObj 335 dx), (dx, dictOf [⟨PyData.keyHash w.params "terminals", .str "terminals" k1, .ref t⟩, ⟨PyData.keyHash w.params "levels", .str "levels" k2, .ref lv⟩, ⟨PyData.keyHash w.params "level_count", .str "level_count" k3, .int 0 c1⟩,
   ⟨PyData.keyHash w.params "drafts", .str "drafts" k4, .ref dr⟩, ⟨PyData.keyHash w.params "lefts", .str "lefts" k5, .ref lf⟩, ⟨PyData.keyHash w.params "middle_count", .str "middle_count" k6, .int 0 c2⟩,
   ⟨PyData.keyHash w.params "start", .str "start" k7, .none⟩, ⟨PyData.keyHash w.params "expect", .str "expect" k8, .none⟩] 8), (t, listOf #[] 0), (lv, o), (dr, listOf #[] 0), (lf, listOf #[] 0)] :=
  ⟨⟨x, dx, t, lv, dr, lf, k1, k2, k3, k4, k5, k6, k7, k8⟩, rfl, rfl, ⟨l1, l2, l3, l4, l5⟩, hs, fun P => ⟨c1, c2, .none, .none, [], 0, o, [], 0, [], 0, [], rfl, .nil, .nil, .none, .none, ho, .nil, .nil⟩⟩
theorem maker_init {h : Heap} {x dx : Addr} (l : @LT.lt Nat instLTNat dx x) :
    FP base h [(x, instObj 335 dx), (dx, dictOf [] 0)] → Spec w loose mean mg mb base 249 [.ref x] 3 h [(x, instObj 335 dx), (dx, dictOf [] 0)]
      (fun v n => v = .none ∧ MkPost w x dx n) False := by
  intro fp
  ktr_enter
  k_steps
  exact leaveC (by k_asm) (by k_asm) fun kp nw => ret _ _ _ _ kp (nw.sub maker_perm) ⟨rfl, maker_post l (by k_extra "ltD") (by k_extra "ltD") (by k_extra "ltD") (by k_extra "ltD") (by with_reducible assumption) (by with_reducible assumption)⟩
end
theorem mk_open {w : World} {m : MA} {S : MS} {P : Mp} {led : List (Addr × Obj)} {h : Heap} (hM : MkL w m S P led) (hsy : (m.lv == sysModules) = false) (hl : ∀ p ∈ led, h.get? p.1 = some p.2) (hP : ∀ a o, P a o → h.get? a = some o) :
    ∃ lct mct st ex ts lo ds ls kvs, MB w m S lct mct st ex ts lo ds ls kvs h ∧ LvsOn P kvs S.lv := by
  obtain ⟨lct, mct, st, ex, ts, te, lo, ds, de, ls, le, kvs, rfl, a1, a2, a3, a4, a5, a6, a7⟩ := hM
  exact ⟨lct, mct, st, ex, ts, lo, ds, ls, kvs, ⟨⟨hl _ (.head _), rfl, rfl, hl _ (.tail _ (.head _))⟩, ⟨_, hl _ (.tail _ (.tail _ (.head _))), rfl, _, rfl⟩, ⟨_, hl _ (.tail _ (.tail _ (.tail _ (.tail _ (.head _))))), rfl, _, rfl⟩, ⟨_, hl _ (.tail _ (.tail _ (.tail _ (.tail _ (.tail _ (.head _)))))), rfl, _, rfl⟩, hl _ (.tail _ (.tail _ (.tail _ (.head _)))), a5, hsy, a1, a2, a3, a4, a6.mono hP, a7.mono fun _ _ => DraftOn.mono hP⟩, a6⟩
theorem mv8 {α : Type} {pre l1 l2 p b n nd : List α} {s : α} : ∀ q ∈ pre ++ (l1 ++ (l2 ++ (p ++ (b ++ (s :: (n ++ nd)))))), q ∈ n ++ (pre ++ (l1 ++ (l2 ++ (p ++ (b ++ (s :: nd)))))) := by
  intro q h
  simp only [List.mem_append, List.mem_cons] at h ⊢
  rcases h with h | h | h | h | h | h | h | h <;> simp [h]
theorem mv9 {α : Type} {pre l1 l2 p b nd : List α} {s : α} : ∀ q ∈ pre ++ (l1 ++ (l2 ++ ((p ++ b) ++ (s :: nd)))), q ∈ pre ++ (l1 ++ (l2 ++ (p ++ (b ++ (s :: nd))))) := by
  intro q h
  simp only [List.mem_append, List.mem_cons] at h ⊢
  rcases h with h | h | h | (h | h) | h | h <;> simp [h]
section
variable {w : World} {loose : List Str} {mean : ExcName → Option Value} {mg mb : Str → Option Value} {base : Heap}
variable {A A₀ : Around} {env : Env} {g : Heap} {L : Addr} {m : Str → Option Value} {pre nx : List (Addr × Obj)} {Q E : Value → Shared → Prop} {dp un : Nat} {gd : Option (List Code)} {hp : Heap} {gn : Array GenState} {dr : Drawn} {tk : Nat} {os : OsState}
variable {m1 m2 : MA} {b : BA} {sp : Addr} {spo : Obj} {cs : List Value} {xs : List Int} {n : Nat} {S1 S2 : MS} {K : BKS} {P : Int}
theorem made_law (hN : (allA m1 m2 b sp).Nodup) (hsy : (m1.lv == sysModules) = false) (H : LawL w m1 m2 b sp spo cs n S1 S2 K P nx) (Z : MSm S1) (Sd : SoundS S1) (zn : S1.ts.length + S1.ls.length < 800) (zd : S1.ds.length < 800) (zv : S1.lv.length < 60) (hpre : ∀ p ∈ pre, ∀ q ∈ nx, q.1 ≠ p.1)
    (X : (frag.heap_1 w.params).In base) (T : Top view loose mean mg mb base) (B : Below A₀ base [] g) (F : Fr g L hp m) (N : News g L hp (pre ++ nx))
    (hA : A = Ar dp un gd [env]) (hL : env.frame = some L) (hke : env.scope.kind ≠ .module) (hd : dp + 14 < recursionLimit) (hu : un + 8 * 14 < cLine)
    (ret : ∀ v h' tk' nx', Fr g L h' m → News g L h' (pre ++ nx') → (∀ p ∈ pre, ∀ q ∈ nx', q.1 ≠ p.1) → LawL w m1 m2 b sp spo cs n S1 S2 K P nx' → (∀ a o, Tl (allA m1 m2 b sp) nx a o → Tl (allA m1 m2 b sp) nx' a o) → DatOn (Tl (allA m1 m2 b sp) nx') v (madeDat S1) → Q v ⟨h', gn, dr, tk', os⟩) :
    wpAny (model prg w) A (call (.ref 382) [.ref m1.x]) Q E ⟨hp, gn, dr, tk, os⟩ := by
  obtain ⟨led1, led2, bo, fv, fe, tv, te, e, pos, pt, res, rt, nd, rfl, M1, M2, p0, p1, r0, hB, hnd⟩ := H
  have a1 := mk_adr M1
  have a2 := mk_adr M2
  have hPP : ∀ a o, Tl (allA m1 m2 b sp) (led1 ++ (led2 ++ (penL b.p b.c e pos pt res rt cs n ++ (booksL b.bk bo b.fl b.tk fv fe tv te ++ ((sp, spo) :: nd))))) a o → hp.get? a = some o := fun a o h => (N (a, o) (List.mem_append.mpr (.inr h.1))).1
  obtain ⟨lct, mct, st, ex, ts, lo, ds, ls, kvs, hMB, hlv⟩ := mk_open M1 hsy (fun p hp => (N p (List.mem_append.mpr (.inr (List.mem_append.mpr (.inl hp))))).1) hPP
  refine useT (s := ⟨hp, gn, dr, tk, os⟩) (fun _ => law_made hMB Z Sd hPP hlv zn zd zv) X T B F N hA hL hke hd hu Pick.nil (allNe_nil _) fun v' h' tk' nd' F' N' hf' po => ?_
  have fresh : ∀ p ∈ nd', ∀ q ∈ pre ++ (led1 ++ (led2 ++ (penL b.p b.c e pos pt res rt cs n ++ (booksL b.bk bo b.fl b.tk fv fe tv te ++ ((sp, spo) :: nd))))), q.1 ≠ p.1 := fun p hp => (hf' p hp).resolve_left fun z => nomatch z
  obtain ⟨k1, k2⟩ := law_news (spo := spo) (pre := pre) (led1 := led1) (led2 := led2) (nd := nd) (nd' := nd') (pb := penL b.p b.c e pos pt res rt cs n ++ booksL b.bk bo b.fl b.tk fv fe tv te) (fpo := []) hN a1 a2 rfl (fun a ha => nomatch ha) (fun p hp z => nomatch z) (fun p hp => .inr fun q hq => fresh p hp q (mv9 q hq))
  have hnd2 : ∀ p ∈ nd' ++ nd, p.1 ∉ allA m1 m2 b sp := fun p hp => (List.mem_append.mp hp).elim (k1 p) (hnd p)
  have mono : ∀ a o, Tl (allA m1 m2 b sp) (led1 ++ (led2 ++ (penL b.p b.c e pos pt res rt cs n ++ (booksL b.bk bo b.fl b.tk fv fe tv te ++ ((sp, spo) :: nd))))) a o → Tl (allA m1 m2 b sp) (led1 ++ (led2 ++ (penL b.p b.c e pos pt res rt cs n ++ (booksL b.bk bo b.fl b.tk fv fe tv te ++ ((sp, spo) :: (nd' ++ nd)))))) a o := fun a o h => by
    rw [← List.append_assoc (penL _ _ _ _ _ _ _ _ _)] at h ⊢
    exact tl_of hnd2 (fun _ h => h) (List.mem_append.mpr (.inr (tl_in (pb := penL b.p b.c e pos pt res rt cs n ++ booksL b.bk bo b.fl b.tk fv fe tv te) a1 a2 rfl h)))
  refine ret v' h' tk' _ F' (News.subl N' mv8) (fun p hp q hq => ?_) ⟨led1, led2, bo, fv, fe, tv, te, e, pos, pt, res, rt, nd' ++ nd, rfl, M1.mono mono, M2.mono mono, p0, p1, r0, hB, hnd2⟩ mono (po.mono fun a o h => ?_)
  · have old := hpre p hp
    rcases mv4 hq with h | h | h | h | rfl | h | h
    · exact old q (List.mem_append.mpr (.inl h))
    · exact old q (List.mem_append.mpr (.inr (List.mem_append.mpr (.inl h))))
    · exact old q (List.mem_append.mpr (.inr (List.mem_append.mpr (.inr (List.mem_append.mpr (.inl h))))))
    · exact old q (List.mem_append.mpr (.inr (List.mem_append.mpr (.inr (List.mem_append.mpr (.inr (List.mem_append.mpr (.inl h))))))))
    · exact old (sp, spo) (by simp)
    · exact k2 p hp q h
    · exact old q (by simp [h])
  · rcases h with h | h
    · rw [← List.append_assoc (penL _ _ _ _ _ _ _ _ _)]
      exact tl_of hnd2 (fun _ h => h) (List.mem_append.mpr (.inl h))
    · exact mono a o h
theorem perm_swap {α : Type} {a b c : List α} : (a ++ (b ++ c)).Perm (b ++ (a ++ c)) := by
  have h := List.Perm.append_right c (List.perm_append_comm (l₁ := a) (l₂ := b))
  rwa [List.append_assoc, List.append_assoc] at h
/-- the second maker's turn -/
theorem let_use2 (hN : (allA m1 m2 b sp).Nodup) (o : m2.Ok) (hsy : (m2.lv == sysModules) = false) (H : LawL w m1 m2 b sp spo cs n S1 S2 K P nx) (hS : MFit S2) {v : Value} {c : Cal} (hcf : calFits c) (hc : CallOn (Tl (allA m1 m2 b sp) nx) v c) (hpre : ∀ p ∈ pre, ∀ q ∈ nx, q.1 ≠ p.1)
    (X : (frag.heap_1 w.params).In base) (T : Top view loose mean mg mb base) (B : Below A₀ base [] g) (F : Fr g L hp m) (N : News g L hp (pre ++ nx))
    (hA : A = Ar dp un gd [env]) (hL : env.frame = some L) (hke : env.scope.kind ≠ .module) (hd : dp + 12 < recursionLimit) (hu : un + 8 * 12 < cLine)
    (ret : ∀ r S2' h' tk' nx', Fr g L h' m → News g L h' (pre ++ nx') → (∀ p ∈ pre, ∀ q ∈ nx', q.1 ≠ p.1) → LawL w m1 m2 b sp spo cs n S1 S2' K P nx' → ((calOk S2 c ∧ r = true ∧ S2' = calDo S2 c) ∨ (¬ calOk S2 c ∧ r = false ∧ S2' = S2)) → Q (.bool r) ⟨h', gn, dr, tk', os⟩) :
    wpAny (model prg w) A (call (.ref 377) [.ref m2.x, v]) Q E ⟨hp, gn, dr, tk, os⟩ := by
  obtain ⟨ny, hm, H2⟩ := H.swap
  have ha : ∀ a, a ∈ allA m2 m1 b sp ↔ a ∈ allA m1 m2 b sp := fun a => mem_swap
  have hN2 : (allA m2 m1 b sp).Nodup := (List.Perm.nodup_iff perm_swap).mp hN
  refine let_use hN2 o hsy H2 hS hcf (hc.mono fun a o h => ⟨(hm _).mpr h.1, fun z => h.2 ((ha a).mp z)⟩) (fun p hp q hq => hpre p hp q ((hm q).mp hq)) X T B F (News.subl N fun p hp => (List.mem_append.mp hp).elim (fun h => List.mem_append.mpr (.inl h)) fun h => List.mem_append.mpr (.inr ((hm p).mp h))) hA hL hke hd hu fun r S2' h' tk' nx' F' N' A' L' _ hr => ?_
  obtain ⟨nz, hz, H3⟩ := L'.swap
  exact ret r S2' h' tk' nz F' (News.subl N' fun p hp => (List.mem_append.mp hp).elim (fun h => List.mem_append.mpr (.inl h)) fun h => List.mem_append.mpr (.inr ((hz p).mp h))) (fun p hp q hq => A' p hp q ((hz q).mp hq)) H3 hr
theorem made_law2 (hN : (allA m1 m2 b sp).Nodup) (hsy : (m2.lv == sysModules) = false) (H : LawL w m1 m2 b sp spo cs n S1 S2 K P nx) (Z : MSm S2) (Sd : SoundS S2) (zn : S2.ts.length + S2.ls.length < 800) (zd : S2.ds.length < 800) (zv : S2.lv.length < 60) (hpre : ∀ p ∈ pre, ∀ q ∈ nx, q.1 ≠ p.1)
    (X : (frag.heap_1 w.params).In base) (T : Top view loose mean mg mb base) (B : Below A₀ base [] g) (F : Fr g L hp m) (N : News g L hp (pre ++ nx))
    (hA : A = Ar dp un gd [env]) (hL : env.frame = some L) (hke : env.scope.kind ≠ .module) (hd : dp + 14 < recursionLimit) (hu : un + 8 * 14 < cLine)
    {v1 : Value} {d1 : PyData} (hv : DatOn (Tl (allA m1 m2 b sp) nx) v1 d1)
    (ret : ∀ v h' tk' nx', Fr g L h' m → News g L h' (pre ++ nx') → DatOn (inl nx') v1 d1 → DatOn (inl nx') v (madeDat S2) → Q v ⟨h', gn, dr, tk', os⟩) :
    wpAny (model prg w) A (call (.ref 382) [.ref m2.x]) Q E ⟨hp, gn, dr, tk, os⟩ := by
  obtain ⟨ny, hm, H2⟩ := H.swap
  have ha : ∀ a, a ∈ allA m2 m1 b sp ↔ a ∈ allA m1 m2 b sp := fun a => mem_swap
  have hN2 : (allA m2 m1 b sp).Nodup := (List.Perm.nodup_iff perm_swap).mp hN
  exact made_law hN2 hsy H2 Z Sd zn zd zv (fun p hp q hq => hpre p hp q ((hm q).mp hq)) X T B F (News.subl N fun p hp => (List.mem_append.mp hp).elim (fun h => List.mem_append.mpr (.inl h)) fun h => List.mem_append.mpr (.inr ((hm p).mp h))) hA hL hke hd hu fun v h' tk' nx' F' N' A' L' mono hd =>
    ret v h' tk' nx' F' N' (hv.mono fun a o h => (mono a o ⟨(hm _).mpr h.1, fun z => h.2 ((ha a).mp z)⟩).1) (hd.mono fun a o h => h.1)
end
section
variable {prog : Program} {w : World} {A : Around} {E : Value → Shared → Prop} {env : Env} {h₀ : Heap} {target : PySem.Expr} {body : List Stmt} {Q : Flow → Shared → Prop}
/-- a loop over a list of the ledger -/
theorem loopL {s : Shared} {l : Addr} {vs : List Value} {n : Nat} {m₀ : Str → Option Value} {nx₀ : List (Addr × Obj)} (J : Nat → (Str → Option Value) → List (Addr × Obj) → Prop)
    (hh : A.handled = none) (hl : ∀ i m nx, J i m nx → (l, listOf vs.toArray n) ∈ nx) (hE : PassesOwn (model prog w) A env E) (ht : ∀ v I, letOwnedTupleGo target (.ref I) v = pure ())
    (F : Fr h₀ env.locals s.heap m₀) (N : News h₀ env.locals s.heap nx₀) (hj : J 0 m₀ nx₀)
    (turn : ∀ i v m₁ nx h tk I oI, vs[i]? = some v → J i m₁ nx → (∀ q ∈ nx, q.1 ≠ I) → Fr h₀ env.locals h m₁ → News h₀ env.locals h ((I, oI) :: nx) →
      wpAny (model prog w) A (assign target env v) (fun _ s₂ => wpAny (model prog w) A (PySem.execs body env) (TPost h₀ env.locals (J (i + 1)) I oI { s with heap := h, toks := tk } Q) E s₂) E { s with heap := h, toks := tk })
    (done : ∀ m₁ nx h tk, J vs.length m₁ nx → Fr h₀ env.locals h m₁ → News h₀ env.locals h nx → Q .next { s with heap := h, toks := tk }) :
    IterAt prog w A env target body Q E (.ref l) s := by
  have hm := N _ (hl _ _ _ hj)
  have hls : s.heap.IsList l vs.toArray := ⟨_, hm.1, rfl, _, rfl⟩
  have hne : l ≠ s.heap.objs.size := Nat.ne_of_lt (Heap.lt_size hm.1)
  refine wpAny_pyIter_list hls ?_
  have W := Walks.list (prog := prog) (w := w) hh s.heap.objs.size l hne vs.toArray
  have hI0 : h₀.get? s.heap.objs.size = none := none_at_size F
  refine loopW (s := { s with heap := s.heap.push { cls := .type "list_iterator", data := .fields #[.ref l, .int 0 0] } }) (oI₀ := { cls := .type "list_iterator", data := .fields #[.ref l, .int 0 0] }) J W hE (fun i v s Q E st hQ => go_of (ht := ht) hQ) (fun i h st => ?_) (F.push _) (fun p hp => ?_) (fun q hq e => ?_) ⟨⟨_, Heap.get?_push_size _ rfl, rfl, rfl⟩, hls.at fun o e => Heap.get?_push_of_some _ e⟩ hj (fun b hb hbI => ?_)
    (fun i v m₁ nx h tk oI hi hP hJ hn F1 N1 => turn i v m₁ nx h tk _ oI (by simpa using hP) hJ hn F1 N1) (fun m₁ nx h tk hJ F1 N1 => done m₁ nx h tk (by simpa using hJ) F1 N1)
  · obtain ⟨o, ho, _⟩ := st.1; exact ⟨o, ho⟩
  · rcases List.mem_cons.mp hp with rfl | hp
    · exact ⟨Heap.get?_push_size _ rfl, Nat.ne_of_gt F.ns.lt, hI0⟩
    · exact ⟨Heap.get?_push_of_some _ (N p hp).1, (N p hp).2⟩
  · exact absurd (Heap.lt_size (N q hq).1) (e ▸ Nat.lt_irrefl _)
  · rcases List.mem_cons.mp hb with rfl | hb
    · exact absurd rfl hbI
    · rw [List.mem_singleton.mp hb]; exact .inr ⟨_, hl⟩
end
theorem mv10 {α : Type} {pre l1 l2 p b nd : List α} {s : α} : ∀ q ∈ (p ++ (b ++ [])) ++ (pre ++ (l1 ++ (l2 ++ (s :: nd)))), q ∈ p ++ (pre ++ (l1 ++ (l2 ++ (b ++ (s :: nd))))) := by
  intro q h
  simp only [List.mem_append, List.mem_cons, List.not_mem_nil, or_false] at h ⊢
  rcases h with (h | h) | h | h | h | h | h <;> simp [h]
theorem mv11 {α : Type} {pre l1 l2 p b s : List α} : ∀ q ∈ p ++ (pre ++ (l1 ++ (l2 ++ (b ++ s)))), q ∈ pre ++ (l1 ++ (l2 ++ (p ++ (b ++ s)))) := by
  intro q h
  simp only [List.mem_append] at h ⊢
  rcases h with h | h | h | h | h | h <;> simp [h]
theorem ok_nodup {m : MA} (o : m.Ok) : (six m).Nodup := by
  obtain ⟨a1, a2, a3, a4, a5⟩ := o
  simp only [six, List.nodup_cons, List.mem_cons, List.not_mem_nil, or_false, not_or, not_false_eq_true, List.nodup_nil, and_true]
  refine ⟨⟨?_, ?_, ?_, ?_, ?_⟩, ⟨?_, ?_, ?_, ?_⟩, ⟨?_, ?_, ?_⟩, ⟨?_, ?_⟩, ?_⟩ <;> (refine neN ?_; omega)
theorem b_nodup {b : BA} (o : b.Ok) : (five b).Nodup := by
  obtain ⟨a1, a2, a3, a4⟩ := o
  simp only [five, List.nodup_cons, List.mem_cons, List.not_mem_nil, or_false, not_or, not_false_eq_true, List.nodup_nil, and_true]
  refine ⟨⟨?_, ?_, ?_, ?_⟩, ⟨?_, ?_, ?_⟩, ⟨?_, ?_⟩, ?_⟩ <;> (refine neN ?_; omega)
theorem all_nodup {m1 m2 : MA} {b : BA} {sp : Addr} (o1 : m1.Ok) (o2 : m2.Ok) (o : b.Ok) (h12 : ∀ a ∈ six m1, ∀ c ∈ six m2, a ≠ c) (h1b : ∀ a ∈ six m1, ∀ c ∈ five b, a ≠ c) (h2b : ∀ a ∈ six m2, ∀ c ∈ five b, a ≠ c) (h1s : ∀ a ∈ six m1, a ≠ sp) (h2s : ∀ a ∈ six m2, a ≠ sp) (hbs : ∀ a ∈ five b, a ≠ sp) : (allA m1 m2 b sp).Nodup := by
  unfold allA
  refine List.nodup_append.mpr ⟨ok_nodup o1, List.nodup_append.mpr ⟨ok_nodup o2, List.nodup_append.mpr ⟨b_nodup o, by simp, fun a ha c hc => ?_⟩, fun a ha c hc => ?_⟩, fun a ha c hc => ?_⟩
  · rw [List.mem_singleton.mp hc]; exact hbs a ha
  · rcases List.mem_append.mp hc with hc | hc
    · exact h2b a ha c hc
    · rw [List.mem_singleton.mp hc]; exact h2s a ha
  · rcases List.mem_append.mp hc with hc | hc
    · exact h12 a ha c hc
    · rcases List.mem_append.mp hc with hc | hc
      · exact h1b a ha c hc
      · rw [List.mem_singleton.mp hc]; exact h1s a ha
section
variable {w : World} {loose : List Str} {mean : ExcName → Option Value} {mg mb : Str → Option Value} {base : Heap}
variable {A A₀ : Around} {env : Env} {frs : List Env} {g : Heap} {L : Addr} {m : Str → Option Value} {pre nx : List (Addr × Obj)} {Q E : Value → Shared → Prop} {dp un : Nat} {gd : Option (List Code)} {hp : Heap} {gn : Array GenState} {dr : Drawn} {tk : Nat} {os : OsState}
variable {m1 m2 : MA} {b : BA} {sp : Addr} {spo : Obj} {cs : List Value} {xs : List Int} {n : Nat} {S1 S2 S : MS} {K : BKS} {P : Int}
theorem dip_law (hN : (allA m1 m2 b sp).Nodup) (o : b.Ok) (hi : IntsAre cs xs) (hn : cs.length < 100) {many : Int} {mt : Tok} (hm0 : 0 < many) (hm1 : many < 1000) (H : LawL w m1 m2 b sp spo cs n S1 S2 K P nx) (hP : P < 800000) (hpre : ∀ p ∈ pre, ∀ q ∈ nx, q.1 ≠ p.1)
    (X : (frag.heap_1 w.params).In base) (T : Top view loose mean mg mb base) (B : Below A₀ base frs g) (F : Fr g L hp m) (N : News g L hp (pre ++ nx))
    (hA : A = Ar dp un gd (env :: frs)) (hL : env.frame = some L) (hke : env.scope.kind ≠ .module) (hd : dp + 2 < recursionLimit) (hu : un + 8 * 2 < cLine)
    (ret : ∀ r t h' tk' nx', 0 ≤ r → r < many → Fr g L h' m → News g L h' (pre ++ nx') → (∀ p ∈ pre, ∀ q ∈ nx', q.1 ≠ p.1) → LawL w m1 m2 b sp spo cs n S1 S2 K (P + 1) nx' → Q (.int r t) ⟨h', gn, dr, tk', os⟩) :
    wpAny (model prg w) A (call (.ref 351) [.ref b.p, .int many mt]) Q E ⟨hp, gn, dr, tk, os⟩ := by
  obtain ⟨led1, led2, bo, fv, fe, tv, te, e, pos, pt, res, rt, nd, rfl, M1, M2, p0, p1, r0, hB, hnd⟩ := H
  have a1 := mk_adr M1
  have a2 := mk_adr M2
  have hap := law_apart (pre := pre) (spo := spo) hN a1 a2 hnd hpre
  have hne : AllNe [b.p, b.c] (pre ++ (led1 ++ (led2 ++ (booksL b.bk bo b.fl b.tk fv fe tv te ++ ((sp, spo) :: nd))))) := ne_of_off fun p hp hm => by
    have h5 : p.1 ∈ five b := by
      simp only [List.mem_cons, List.not_mem_nil, or_false] at hm
      rcases hm with h | h
      · rw [h]; exact .head _
      · rw [h]; exact .tail _ (.head _)
    have h2 : p ∈ (pre ++ (led1 ++ (led2 ++ ((sp, spo) :: nd)))) ∨ p ∈ booksL b.bk bo b.fl b.tk fv fe tv te := by
      generalize booksL b.bk bo b.fl b.tk fv fe tv te = bl at hp ⊢
      simp only [List.mem_append, List.mem_cons] at hp ⊢
      rcases hp with h | h | h | h | h | h <;> simp [h]
    rcases h2 with h | h
    · exact hap.all p h h5
    · obtain ⟨b1, b2, b3, b4⟩ := o
      simp only [booksL, List.mem_cons, List.not_mem_nil, or_false] at h hm
      rcases h with rfl | rfl | rfl <;> rcases hm with z | z <;> (revert z; refine neN ?_; dsimp only; omega)
  refine useP (s := ⟨hp, gn, dr, tk, os⟩) (dip o.a1 hi hn hm0 hm1 p0 (by omega) r0) X T B F (News.subl N mv11) hA hL hke hd hu (Pick.front _ _) hne (fun v h' tk' news' F' N' hf' _ po => ?_) fun f => f.elim
  obtain ⟨r, t, e', pos', pt', res', rt', rfl, z0, z1, z2, z3, z4, rfl⟩ := po
  obtain ⟨nx', N2, A2, L2, T2⟩ := law_step (P' := P + 1) (nd' := []) hN M1 M2 hnd hpre (News.subl N' mv10) (fun p hp => .inl (by
    simp only [List.append_nil] at hp
    rcases List.mem_append.mp hp with h | h
    · exact List.mem_map.mpr (by
        simp only [penL, List.mem_cons, List.not_mem_nil, or_false] at h
        rcases h with rfl | rfl
        · exact ⟨_, .head _, rfl⟩
        · exact ⟨_, .tail _ (.head _), rfl⟩)
    · exact List.mem_map_of_mem (f := Prod.fst) (List.mem_append.mpr (.inr h)))) True.intro z2 (by omega) z4 hB
  exact ret r t h' tk' nx' z0 z1 F' N2 A2 L2
theorem let_good1 (hN : (allA m1 m2 b sp).Nodup) (o : m1.Ok) (hsy : (m1.lv == sysModules) = false) (H : LawL w m1 m2 b sp spo cs n S1 S2 K P nx) (hS : MFit S1) {v : Value} {c : Cal} (hcf : calFits c) (hok : calOk S1 c) (hc : CallOn (Tl (allA m1 m2 b sp) nx) v c) (hpre : ∀ p ∈ pre, ∀ q ∈ nx, q.1 ≠ p.1)
    (X : (frag.heap_1 w.params).In base) (T : Top view loose mean mg mb base) (B : Below A₀ base [] g) (F : Fr g L hp m) (N : News g L hp (pre ++ nx))
    (hA : A = Ar dp un gd [env]) (hL : env.frame = some L) (hke : env.scope.kind ≠ .module) (hd : dp + 12 < recursionLimit) (hu : un + 8 * 12 < cLine)
    (ret : ∀ h' tk' nx', Fr g L h' m → News g L h' (pre ++ nx') → (∀ p ∈ pre, ∀ q ∈ nx', q.1 ≠ p.1) → LawL w m1 m2 b sp spo cs n (calDo S1 c) S2 K P nx' → CallOn (Tl (allA m1 m2 b sp) nx') v c → Q (.bool true) ⟨h', gn, dr, tk', os⟩) :
    wpAny (model prg w) A (call (.ref 377) [.ref m1.x, v]) Q E ⟨hp, gn, dr, tk, os⟩ :=
  let_use hN o hsy H hS hcf hc hpre X T B F N hA hL hke hd hu fun r S' h' tk' nx' F' N' A' L' mono hr => by
    rcases hr with ⟨_, rfl, rfl⟩ | ⟨hno, _⟩
    · exact ret h' tk' nx' F' N' A' L' (hc.mono mono)
    · exact absurd hok hno
theorem let_good2 (hN : (allA m1 m2 b sp).Nodup) (o : m2.Ok) (hsy : (m2.lv == sysModules) = false) (H : LawL w m1 m2 b sp spo cs n S1 S2 K P nx) (hS : MFit S2) {v : Value} {c : Cal} (hcf : calFits c) (hok : calOk S2 c) (hc : CallOn (Tl (allA m1 m2 b sp) nx) v c) (hpre : ∀ p ∈ pre, ∀ q ∈ nx, q.1 ≠ p.1)
    (X : (frag.heap_1 w.params).In base) (T : Top view loose mean mg mb base) (B : Below A₀ base [] g) (F : Fr g L hp m) (N : News g L hp (pre ++ nx))
    (hA : A = Ar dp un gd [env]) (hL : env.frame = some L) (hke : env.scope.kind ≠ .module) (hd : dp + 12 < recursionLimit) (hu : un + 8 * 12 < cLine)
    (ret : ∀ h' tk' nx', Fr g L h' m → News g L h' (pre ++ nx') → (∀ p ∈ pre, ∀ q ∈ nx', q.1 ≠ p.1) → LawL w m1 m2 b sp spo cs n S1 (calDo S2 c) K P nx' → Q (.bool true) ⟨h', gn, dr, tk', os⟩) :
    wpAny (model prg w) A (call (.ref 377) [.ref m2.x, v]) Q E ⟨hp, gn, dr, tk, os⟩ :=
  let_use2 hN o hsy H hS hcf hc hpre X T B F N hA hL hke hd hu fun r S' h' tk' nx' F' N' A' L' hr => by
    rcases hr with ⟨_, rfl, rfl⟩ | ⟨hno, _⟩
    · exact ret h' tk' nx' F' N' A' L'
    · exact absurd hok hno
theorem let_bad2 (hN : (allA m1 m2 b sp).Nodup) (o : m2.Ok) (hsy : (m2.lv == sysModules) = false) (H : LawL w m1 m2 b sp spo cs n S1 S2 K P nx) (hS : MFit S2) {v : Value} {c : Cal} (hcf : calFits c) (hno : ¬ calOk S2 c) (hc : CallOn (Tl (allA m1 m2 b sp) nx) v c) (hpre : ∀ p ∈ pre, ∀ q ∈ nx, q.1 ≠ p.1)
    (X : (frag.heap_1 w.params).In base) (T : Top view loose mean mg mb base) (B : Below A₀ base [] g) (F : Fr g L hp m) (N : News g L hp (pre ++ nx))
    (hA : A = Ar dp un gd [env]) (hL : env.frame = some L) (hke : env.scope.kind ≠ .module) (hd : dp + 12 < recursionLimit) (hu : un + 8 * 12 < cLine)
    (ret : ∀ h' tk' nx', Fr g L h' m → News g L h' (pre ++ nx') → (∀ p ∈ pre, ∀ q ∈ nx', q.1 ≠ p.1) → LawL w m1 m2 b sp spo cs n S1 S2 K P nx' → Q (.bool false) ⟨h', gn, dr, tk', os⟩) :
    wpAny (model prg w) A (call (.ref 377) [.ref m2.x, v]) Q E ⟨hp, gn, dr, tk, os⟩ :=
  let_use2 hN o hsy H hS hcf hc hpre X T B F N hA hL hke hd hu fun r S' h' tk' nx' F' N' A' L' hr => by
    rcases hr with ⟨hok, _⟩ | ⟨_, rfl, rfl⟩
    · exact absurd hok hno
    · exact ret h' tk' nx' F' N' A' L'
end
theorem law_begin {C : Prop} {w : World} {g h : Heap} {L p c D bk fl tk : Addr} {m1 m2 : MA} {led1 led2 : List (Addr × Obj)} {e n : Nat} {t1 t2 : Tok} {cs : List Value} {tup bo : Obj} {fv : List Value} {M : Str → Option Value} {st xt : Tok}
    (F : Fr g L h fun y => if y = Str.ofString "books" then some (.ref bk) else if y = Str.ofString "one" then some (.ref m1.x) else if y = Str.ofString "other" then some (.ref m2.x) else if y = Str.ofString "pen" then some (.ref p) else M y)
    (N : News g L h ((tk, listOf #[] 0) :: (fl, listOf fv.toArray 0) :: (bk, bo) :: (D, tup) :: (led2 ++ (led1 ++ (penL p c e 0 t1 0 t2 cs n ++ [])))))
    (o1 : m1.Ok) (o2 : m2.Ok) (hM1 : ∀ P, MkL w m1 S0 P led1) (hM2 : ∀ P, MkL w m2 S0 P led2) (hA1 : ∀ a ∈ six m1, ∀ q ∈ penL p c e 0 t1 0 t2 cs n ++ [], q.1 ≠ a) (hA2 : ∀ a ∈ six m2, ∀ q ∈ led1 ++ (penL p c e 0 t1 0 t2 cs n ++ []), q.1 ≠ a) (hcp : @LT.lt Nat instLTNat c p)
    (l0 : ∀ q ∈ led2 ++ (led1 ++ (penL p c e 0 t1 0 t2 cs n ++ [])), q.1 < D) (l1 : ∀ q ∈ (D, tup) :: (led2 ++ (led1 ++ (penL p c e 0 t1 0 t2 cs n ++ []))), q.1 < bk) {o3 o4 : Obj} (l2 : ∀ q ∈ (bk, o3) :: (D, tup) :: (led2 ++ (led1 ++ (penL p c e 0 t1 0 t2 cs n ++ []))), q.1 < fl) (l3 : ∀ q ∈ (fl, listOf fv.toArray 0) :: (bk, o4) :: (D, tup) :: (led2 ++ (led1 ++ (penL p c e 0 t1 0 t2 cs n ++ []))), q.1 < tk)
    (hbo : bo.IsDictOf (_root_.PySem.strKind prg w) (booksK fl tk 0 0 st xt)) (hfv : StrsAre fv FREE) (hs : (bk == sysModules) = false)
    (k : ∀ (b : BA) (sp : Addr) (spo : Obj) (nx : List (Addr × Obj)), b.p = p → b.bk = bk → Fr g L h (fun y => if y = Str.ofString "books" then some (.ref b.bk) else if y = Str.ofString "one" then some (.ref m1.x) else if y = Str.ofString "other" then some (.ref m2.x) else if y = Str.ofString "pen" then some (.ref b.p) else M y) → News g L h nx → LawL w m1 m2 b sp spo cs n S0 S0 ⟨0, 0, 0⟩ 0 nx → (allA m1 m2 b sp).Nodup → b.Ok → (b.bk == sysModules) = false → C) : C := by
  have a1 := mk_adr (hM1 fun _ _ => True)
  have a2 := mk_adr (hM2 fun _ _ => True)
  have ob : BA.Ok ⟨p, c, bk, fl, tk⟩ := ⟨hcp, Nat.lt_trans (l0 (p, _) (List.mem_append.mpr (.inr (List.mem_append.mpr (.inr (.head _)))))) (l1 _ (.head _)), l2 _ (.head _), l3 _ (.head _)⟩
  have pD : p < D := l0 (p, _) (List.mem_append.mpr (.inr (List.mem_append.mpr (.inr (.head _)))))
  have cD : c < D := l0 (c, _) (List.mem_append.mpr (.inr (List.mem_append.mpr (.inr (.tail _ (.head _))))))
  have Dbk : D < bk := l1 _ (.head _)
  have Dfl : D < fl := l2 _ (.tail _ (.head _))
  have Dtk : D < tk := l3 _ (.tail _ (.tail _ (.head _)))
  have s1 : ∀ a ∈ six m1, a < D := fun a ha => by
    obtain ⟨q, hq, rfl⟩ := List.mem_map.mp (a1.symm ▸ ha : a ∈ adr led1)
    exact l0 q (List.mem_append.mpr (.inr (List.mem_append.mpr (.inl hq))))
  have s2 : ∀ a ∈ six m2, a < D := fun a ha => by
    obtain ⟨q, hq, rfl⟩ := List.mem_map.mp (a2.symm ▸ ha : a ∈ adr led2)
    exact l0 q (List.mem_append.mpr (.inl hq))
  have pen5 : ∀ a, a < D → (a ≠ p) → (a ≠ c) → ∀ x ∈ five ⟨p, c, bk, fl, tk⟩, a ≠ x := fun a ha hp hc x hx => by
    simp only [five, List.mem_cons, List.not_mem_nil, or_false] at hx
    rcases hx with rfl | rfl | rfl | rfl | rfl
    · exact hp
    · exact hc
    · exact Nat.ne_of_lt (Nat.lt_trans ha Dbk)
    · exact Nat.ne_of_lt (Nat.lt_trans ha Dfl)
    · exact Nat.ne_of_lt (Nat.lt_trans ha Dtk)
  have hND : (allA m1 m2 ⟨p, c, bk, fl, tk⟩ D).Nodup := all_nodup o1 o2 ob (fun a ha x hx e => by
      obtain ⟨q, hq, rfl⟩ := List.mem_map.mp (a1.symm ▸ ha : a ∈ adr led1)
      exact hA2 x hx q (List.mem_append.mpr (.inl hq)) e)
    (fun a ha => pen5 a (s1 a ha) (fun e => hA1 a ha (p, _) (.head _) e.symm) fun e => hA1 a ha (c, _) (.tail _ (.head _)) e.symm)
    (fun a ha => pen5 a (s2 a ha) (fun e => hA2 a ha (p, _) (List.mem_append.mpr (.inr (.head _))) e.symm) fun e => hA2 a ha (c, _) (List.mem_append.mpr (.inr (.tail _ (.head _)))) e.symm)
    (fun a ha => Nat.ne_of_lt (s1 a ha)) (fun a ha => Nat.ne_of_lt (s2 a ha)) fun a ha => by
      simp only [five, List.mem_cons, List.not_mem_nil, or_false] at ha
      rcases ha with rfl | rfl | rfl | rfl | rfl
      · exact Nat.ne_of_lt pD
      · exact Nat.ne_of_lt cD
      · exact Nat.ne_of_gt Dbk
      · exact Nat.ne_of_gt Dfl
      · exact Nat.ne_of_gt Dtk
  refine k ⟨p, c, bk, fl, tk⟩ D tup (led1 ++ (led2 ++ (penL p c e 0 t1 0 t2 cs n ++ (booksL bk bo fl tk fv 0 [] 0 ++ ((D, tup) :: []))))) rfl rfl F (News.subl N fun q hq => ?_) ⟨led1, led2, bo, fv, 0, [], 0, e, 0, t1, 0, t2, [], rfl, hM1 _, hM2 _, Int.le_refl _, Int.le_refl _, Int.le_refl _, ⟨⟨st, xt, hbo⟩, hfv, .nil, by decide⟩, fun _ h => nomatch h⟩ hND ob hs
  generalize penL p c e 0 t1 0 t2 cs n = pl at hq ⊢
  simp only [booksL, List.mem_append, List.mem_cons, List.not_mem_nil, or_false] at hq ⊢
  rcases hq with h | h | h | (h | h | h) | h <;> simp [h]
theorem LawL.le {w : World} {m1 m2 : MA} {b : BA} {sp : Addr} {spo : Obj} {cs : List Value} {n : Nat} {S1 S2 : MS} {K : BKS} {P P' : Int} {nx : List (Addr × Obj)} (H : LawL w m1 m2 b sp spo cs n S1 S2 K P nx) (h : P ≤ P') : LawL w m1 m2 b sp spo cs n S1 S2 K P' nx := by
  obtain ⟨led1, led2, bo, fv, fe, tv, te, e, pos, pt, res, rt, nd, e1, M1, M2, p0, p1, r0, hB, hnd⟩ := H
  exact ⟨led1, led2, bo, fv, fe, tv, te, e, pos, pt, res, rt, nd, e1, M1, M2, p0, Int.le_trans p1 h, r0, hB, hnd⟩
/-- the law's loop -/
inductive LwJ (w : World) (m1 m2 : MA) (b : BA) (sp : Addr) (spo : Obj) (cs : List Value) (n : Nat) (sl : Addr) (slo : Obj) (Mr : Str → Option Value) (i : Nat) (mm : Str → Option Value) (nx : List (Addr × Obj)) : Prop
  | mk (nx0 : List (Addr × Obj)) (S : MS) (K : BKS) (a0 b0 c0 : Option Value) : nx = (sl, slo) :: nx0 → (∀ q ∈ nx0, q.1 ≠ sl) → LawL w m1 m2 b sp spo cs n S S K (3 + 80 * (i : Int)) nx0 → Agree K S → Grow i S → SoundS S → mm = (fun y => if y = Str.ofString "turn" then a0 else if y = Str.ofString "call" then b0 else if y = Str.ofString "spot" then c0 else Mr y) → LwJ w m1 m2 b sp spo cs n sl slo Mr i mm nx
theorem two_apart {nx0 : List (Addr × Obj)} {I sl : Addr} {oI slo : Obj} (h1 : ∀ q ∈ (sl, slo) :: nx0, q.1 ≠ I) (h2 : ∀ q ∈ nx0, q.1 ≠ sl) : ∀ p ∈ [(I, oI), (sl, slo)], ∀ q ∈ nx0, q.1 ≠ p.1 := fun p hp q hq => by
  simp only [List.mem_cons, List.not_mem_nil, or_false] at hp
  rcases hp with rfl | rfl
  · exact h1 q (.tail _ hq)
  · exact h2 q hq
theorem three_apart {nx0 : List (Addr × Obj)} {I2 I sl : Addr} {oI2 oI slo : Obj} (h1 : ∀ q ∈ (I, oI) :: (sl, slo) :: nx0, q.1 ≠ I2) (h2 : ∀ p ∈ [(I, oI), (sl, slo)], ∀ q ∈ nx0, q.1 ≠ p.1) : ∀ p ∈ [(I2, oI2), (I, oI), (sl, slo)], ∀ q ∈ nx0, q.1 ≠ p.1 := fun p hp q hq => by
  rcases List.mem_cons.mp hp with rfl | hp
  · exact h1 q (.tail _ (.tail _ hq))
  · exact h2 p hp q hq
abbrev mlaw (z : Int) (tz : Tok) (sl bk x1 x2 p : Addr) (M : Str → Option Value) : Str → Option Value := fun y => if y = Str.ofString "many" then some (.int z tz) else if y = Str.ofString "spots" then some (.ref sl) else if y = Str.ofString "books" then some (.ref bk) else if y = Str.ofString "one" then some (.ref x1) else if y = Str.ofString "other" then some (.ref x2) else if y = Str.ofString "pen" then some (.ref p) else M y
theorem loop_names {C : Prop} {w : World} {g h : Heap} {L sl sp D r : Addr} {m1 m2 : MA} {b : BA} {z r1 P : Int} {tz t1 t2 t3 : Tok} {cs us : List Value} {vs : List Int} {n : Nat} {tup spo : Obj} {M : Str → Option Value} {nx : List (Addr × Obj)}
    (F : Fr g L h fun y => if y = Str.ofString "many" then some (.int z tz) else if y = Str.ofString "spots" then some (.ref sl) else if y = Str.ofString "books" then some (.ref b.bk) else if y = Str.ofString "one" then some (.ref m1.x) else if y = Str.ofString "other" then some (.ref m2.x) else if y = Str.ofString "pen" then some (.ref b.p) else M y)
    (N : News g L h ((D, tup) :: (sl, listOf us.toArray 0) :: nx)) (R : IsRange h r 0 (1 + r1) 1 t1 t2 t3) (h0 : 0 ≤ r1) (h1 : r1 < 7) (hu : IntsAre us vs) (hz : us.length = 2) (l1 : ∀ p ∈ nx, p.1 < sl) (hH : LawL w m1 m2 b sp spo cs n S0 S0 ⟨0, 0, 0⟩ P nx) (hP : P ≤ 3) (hND : (allA m1 m2 b sp).Nodup)
    (o1 : m1.Ok) (o2 : m2.Ok) (s1 : (m1.lv == sysModules) = false) (s2 : (m2.lv == sysModules) = false)
    (k : ∀ (mn : Nat) (m1 m2 : MA) (sl : Addr) (us : List Value) (vs : List Int) (z : Int) (tz : Tok) (nx : List (Addr × Obj)) (M : Str → Option Value), Fr g L h (mlaw z tz sl b.bk m1.x m2.x b.p M) → News g L h ((sl, listOf us.toArray 0) :: nx) → IsRange h r 0 ((mn : Nat) : Int) 1 t1 t2 t3 → mn ≤ 7 → IntsAre us vs → us.length = 2 → (∀ q ∈ nx, q.1 ≠ sl) → LawL w m1 m2 b sp spo cs n S0 S0 ⟨0, 0, 0⟩ 3 nx → (allA m1 m2 b sp).Nodup → m1.Ok → m2.Ok → (m1.lv == sysModules) = false → (m2.lv == sysModules) = false → C) : C := by
  obtain ⟨mn, hmn⟩ : ∃ mn : Nat, 1 + r1 = (mn : Int) := ⟨(1 + r1).toNat, by omega⟩
  rw [hmn] at R
  exact k mn m1 m2 sl us vs z tz nx M F (fun p hp => N p (.tail _ hp)) R (by omega) hu hz (fun q hq => Nat.ne_of_lt (l1 q hq)) (hH.le hP) hND o1 o2 s1 s2
theorem msm_of {S : MS} {n : Nat} (G : Grow n S) (Sd : SoundS S) (hn : n ≤ 7) : MSm S := by
  obtain ⟨g1, g2, g3, g4, g5, g6, g7⟩ := G
  refine ⟨fun y hy => (Sd.ls y hy).1, fun y hy => (Sd.st y hy).1, by omega, by omega, by omega, fun hne e => ?_⟩
  obtain ⟨D, hD⟩ := List.exists_mem_of_ne_nil _ hne
  have := Sd.left D hD
  rw [e] at this; cases this
theorem lv_short {K : BKS} {S : MS} (A : Agree K S) : S.lv.length < 60 := by
  have := congrArg List.length A.lv
  rw [List.length_map, List.length_take] at this
  have := A.k4
  omega
theorem same_eq {w : World} {A : Around} {E : Value → Shared → Prop} {hp : Heap} {gn : Array GenState} {dr : Drawn} {tk : Nat} {os : OsState} {g : Heap} {L : Addr} {nx : List (Addr × Obj)} {S : MS} {v1 v2 : Value} {Q : Value → Shared → Prop} (Sd : SoundS S) (N : News g L hp nx) (h1 : DatOn (inl nx) v1 (madeDat S)) (h2 : DatOn (inl nx) v2 (madeDat S)) (hu : A.units + 8 < cLine)
    (h : Q (.bool true) ⟨hp, gn, dr, tk, os⟩) : wpAny (model prg w) A (compareOp .Eq v1 v2) Q E ⟨hp, gn, dr, tk, os⟩ := by
  obtain ⟨as, r1⟩ := h1 hp fun a o e => (N (a, o) e).1
  obtain ⟨bs, r2⟩ := h2 hp fun a o e => (N (a, o) e).1
  have hf := made_fine Sd
  refine PySem.SeqAt.compareEq_reads (s := ⟨hp, gn, dr, tk, os⟩) r1 r2 hf.1 hf.1 ?_ ?_
  · have := hf.2
    have : min (madeDat S).depth (madeDat S).depth ≤ 8 := by rw [Nat.min_self]; exact hf.2
    omega
  · rw [made_same Sd]; exact h
theorem words_B40 : True := by
  trivial
section
variable {w : World} {loose : List Str} {mean : ExcName → Option Value} {mg mb : Str → Option Value} {base : Heap}
variable {A A₀ : Around} {env : Env} {frs : List Env} {E : Value → Shared → Prop} {hp : Heap} {gn : Array GenState} {dr : Drawn} {tk : Nat} {os : OsState} {g : Heap} {L a D d : Addr} {m : Str → Option Value} {news : List (Addr × Obj)} {Q : Value → Shared → Prop} {dp un : Nat} {gd : Option (List Code)}
theorem ink_use {l : Addr} {vs : List Value} {ns : List Int} (hl : g.IsList l vs.toArray) (hi : IntsAre vs ns) (hz : vs.length < 64)
    (X : (frag.heap_1 w.params).In base) (T : Top view loose mean mg mb base) (B : Below A₀ base frs g) (F : Fr g L hp m) (N : News g L hp news)
    (hA : A = Ar dp un gd (env :: frs)) (hL : env.frame = some L) (hke : env.scope.kind ≠ .module) (hd : dp + 4 < recursionLimit) (hu : un + 8 * 4 < cLine)
    (ret : ∀ p c cs xs n0 t1 t2 e h' tk', Fr g L h' m → News g L h' (penL p c e 0 t1 0 t2 cs n0 ++ news) → (∀ q ∈ news, q.1 ≠ p ∧ q.1 ≠ c) → IntsAre cs xs → cs.length < 100 → @LT.lt Nat instLTNat c p → Q (.ref p) ⟨h', gn, dr, tk', os⟩) :
    wpAny (model prg w) A (call (.ref 344) [.ref l]) Q E ⟨hp, gn, dr, tk, os⟩ :=
  useP (s := ⟨hp, gn, dr, tk, os⟩) (m := m) (fun _ => inkwell (hl.at fun o e => F.keep _ o e) hi hz) X T B F N hA hL hke hd hu Pick.nil (allNe_nil _) (fun v h' tk' news' F' N' hf _ po => by
    obtain ⟨p, c, e, cs, xs, n0, t1, t2, rfl, rfl, h1, h2, h3⟩ := po
    exact ret p c cs xs n0 t1 t2 e h' tk' F' N' (fun q hq => ⟨(hf _ (.head _)).resolve_left (fun z => nomatch z) q hq, (hf _ (.tail _ (.head _))).resolve_left (fun z => nomatch z) q hq⟩) h1 h2 h3) fun f => f.elim
theorem maker_use (X : (frag.heap_1 w.params).In base) (T : Top view loose mean mg mb base) (B : Below A₀ base frs g) (F : Fr g L hp m) (N : News g L hp news) (X' : (frag.heap_1 w.params).In g)
    (hA : A = Ar dp un gd (env :: frs)) (hL : env.frame = some L) (hke : env.scope.kind ≠ .module) (hd : dp + 1 + 3 < recursionLimit) (hu : un + 1 + 8 * 3 < cLine)
    (ret : ∀ (mk : MA) led h' tk', mk.Ok → (mk.lv == sysModules) = false → Fr g L h' m → News g L h' (led ++ news) → (∀ P, MkL w mk S0 P led) → (∀ a ∈ six mk, ∀ q ∈ news, q.1 ≠ a) → Q (.ref mk.x) ⟨h', gn, dr, tk', os⟩) :
    wpAny (model prg w) A (call (.ref 335) []) Q E ⟨hp, gn, dr, tk, os⟩ := by
  refine newP (C := 335) (fI := 249) (k := 3) (Post := fun x dx n => MkPost w x dx n) (fun _ _ _ _ _ _ l2 => maker_init l2) X T B F N X' hA hL hke hd hu (by k_is) (by k_is) (by k_is) fun x dx h' tk' news' po F' N' hne => ?_
  obtain ⟨mk, rfl, rfl, ho, hs, hM⟩ := po
  have ha := mk_adr (hM fun _ _ => True)
  refine ret mk news' h' tk' ho hs F' N' hM fun a ham q hq e => ?_
  obtain ⟨p, hp, rfl⟩ := List.mem_map.mp (ha.symm ▸ ham : a ∈ adr news')
  exact hne p hp q hq e
end
theorem pre_nil {nx : List (Addr × Obj)} : ∀ p ∈ ([] : List (Addr × Obj)), ∀ q ∈ nx, q.1 ≠ p.1 := fun _ h => nomatch h
theorem short_of {vs : List Value} {ns : List Int} (h : IntsAre vs ns) (c : ¬ (((63 : Nat) : Int) < ((ns.length : Nat) : Int))) : vs.length < 64 := by
  have := h.length
  omega
theorem words_B40b : True := by
  k_with "law_room" => (first | decide | exact of_decide_eq_true rfl)
  k_with "lawC" => (
    (case F => k_asm)
    (case N => k_asm)
    (case A => exact rfl)
    (case L => exact rfl)
    (case K => intro h9; cases h9)
    (case d => k_extra "law_room")
    (case u => k_extra "law_room"))
  k_with "call ref" => ((try dsimp only); k_dflt (
    (with_reducible show wpAny _ _ (call (Value.ref 344) _) _ _ _)
    (refine' ink_use hL0 hI0 hz0 X T B' ?F ?N ?A ?L ?K ?d ?u ?_)
    k_extra "lawC"
    intro p1 c1 cs1 xs1 n1 t1 t2 e1 h' tk' F' N' hpn hxs hcz hcp))
  k_with "call ref" => ((try dsimp only); k_dflt (
    (with_reducible show wpAny _ _ (call (Value.ref 335) _) _ _ _)
    (refine' maker_use X T B' ?F ?N X' ?A ?L ?K ?d ?u ?_)
    k_extra "lawC"
    intro mk9 led9 h' tk' hok9 hsy9 F' N' hM9 hA9))
  k_with "lawPre" => (first | exact pre_nil | with_reducible assumption | assumption)
  k_with "lawN" => ((try simp only [List.cons_append, List.nil_append]); k_asm)
  k_with "lawD" => (
    (case F => k_asm)
    (case A => exact rfl)
    (case L => exact rfl)
    (case K => intro h9; cases h9)
    (case d => k_extra "law_room")
    (case u => k_extra "law_room")
    (case pr => k_extra "lawPre"))
  k_with "call ref" => ((try dsimp only); k_dflt (
    (with_reducible show wpAny _ _ (call (Value.ref 351) _) _ _ _)
    (first | (refine' dip_law (pre := []) hND hbo9 hxs hcz ?m0 ?m1 hH ?pp ?pr X T B' ?F ?N ?A ?L ?K ?d ?u ?_; (case N => k_extra "lawN"); k_extra "lawD"; (case m0 => decide); (case m1 => decide); (case pp => omega); intro r9 t9 h' tk' nx' hr0 hr1 F' N' hpr hH; (try simp only [List.cons_append, List.nil_append] at N')) | refine hold_ ?_)))
  k_with "call ref" => ((try dsimp only); k_dflt (
    (with_reducible show wpAny _ _ (call (Value.ref 363) _) _ _ _)
    (first | ((refine' good_use (pre := [_, _]) hND hbo9 hbs9 hxs hcz hH ?pp ?pr X T B' ?F ?N ?A ?L ?K ?d ?u ?_); (case N => k_extra "lawN"); k_extra "lawD"; (case pp => omega); intro v9 c9 K9 h' tk' nx' F' N' hpr hH hGS hCO; (try simp only [List.cons_append, List.nil_append] at N'); (obtain ⟨hokC, hAg2⟩ := good_ok hAg hGS); have hcf9 := good_fits hGS; have hvh9 := call_handed hCO) | refine hold_ ?_)))
  k_with "call ref" => ((try dsimp only); k_dflt (
    (with_reducible show wpAny _ _ (call (Value.ref 377) _) _ _ _)
    (first
      | (refine' let_good1 (pre := [_, _]) hND hok1 hsy1 hH hMF hcf9 hokC hCO ?pr X T B' ?F ?N ?A ?L ?K ?d ?u ?_; (case N => k_extra "lawN"); k_extra "lawD"; intro h' tk' nx' F' N' hpr hH hCO)
      | (refine' let_good2 (pre := [_, _]) hND hok2 hsy2 hH hMF hcf9 hokC hCO ?pr X T B' ?F ?N ?A ?L ?K ?d ?u ?_; (case N => k_extra "lawN"); k_extra "lawD"; intro h' tk' nx' F' N' hpr hH)
      | (refine' let_bad2 (pre := [_, _, _]) hND hok2 hsy2 hH hMF2 hbf9 hno9 hCB ?pr X T B' ?F ?N ?A ?L ?K ?d ?u ?_; (case N => k_extra "lawN"); k_extra "lawD"; intro h' tk' nx' F' N' hpr hH)
      | (refine hold_ ?_))
    (try simp only [List.cons_append, List.nil_append] at N')))
  k_with "call ref" => ((try dsimp only); k_dflt (
    (with_reducible show wpAny _ _ (call (Value.ref 370) _) _ _ _)
    (first | ((refine' bad_use (pre := [_, _, _]) hND hbo9 hbs9 hxs hcz hH ?pp ?pr X T B' ?F ?N ?A ?L ?K ?d ?u ?_); (case N => k_extra "lawN"); k_extra "lawD"; (case pp => omega); intro v9 c9 h' tk' nx' F' N' hpr hH hBS hbf9 hCB; (try simp only [List.cons_append, List.nil_append] at N'); have hno9 := bad_no hAg2 hBS) | refine hold_ ?_)))
  k_with "call ref" => ((try dsimp only); k_dflt (
    (with_reducible show wpAny _ _ (call (Value.ref 382) _) _ _ _)
    (first
      | (refine' made_law (pre := [_]) hND hsy1 hH hZ hSd ?zn ?zd (lv_short hAg) ?pr X T B' ?F ?N ?A ?L ?K ?d ?u ?_; (case N => k_extra "lawN"); k_extra "lawD"; (case zn => omega); (case zd => omega); intro w1 h' tk' nx' F' N' hpr hH hmo hD1)
      | (refine' made_law2 (pre := [_]) hND hsy2 hH hZ hSd ?zn ?zd (lv_short hAg) ?pr X T B' ?F ?N ?A ?L ?K ?d ?u hD1 ?_; (case N => k_extra "lawN"); k_extra "lawD"; (case zn => omega); (case zd => omega); intro w2 h' tk' nx' F' N' hD1 hD2)
      | (refine hold_ ?_))
    (try simp only [List.cons_append, List.nil_append] at N')))
  k_with "compareOp Eq" => ((try dsimp only); k_dflt (refine' same_eq hSd (News.subl ?seN (fun p hp => List.mem_cons_of_mem _ hp)) hD1 hD2 ?seu ?_; (case seN => k_asm); (case seu => k_extra "law_room")))
  trivial
theorem call_handed {P : Mp} {v : Value} {c : Cal} (h : CallOn P v c) : handedIn v = true := by
  cases c with
  | level side ns => obtain ⟨a, b, l, t1, t2, vs, e, rfl, _⟩ := h; rfl
  | token x => obtain ⟨a, t1, t2, rfl, h1⟩ := h; rfl
  | start x => obtain ⟨a, t1, t2, rfl, h1⟩ := h; rfl
  | expect x => obtain ⟨a, t1, t2, rfl, h1⟩ := h; rfl
  | rule x ps po => obtain ⟨a, b, l, t1, t2, vs, e, pv, rfl, _⟩ := h; rfl
theorem words_B40_b : True := by
  k_with "k_qdec" =>
    first | with_reducible exact view_names | with_reducible exact view_imports
  trivial
theorem law_holds : PySem.Challenge.rw_qd0059_01.Holds := hd (by
  k_go0
  all_goals (try k_fold)
  rename Below callerA _ [] _ => B'
  rename Top _ _ _ _ _ _ => T
  rename Frag.In _ _ => KX
  have X : (frag.heap_1 _).In _ := KX
  clear KX
  rename Heap.IsList _ _ _ => hL0
  rename IntsAre _ _ => hI0
  rename Fr _ _ _ _ => F'
  rename News _ _ _ _ => N'
  have X' := X
  have T' := T
  try dsimp only
  have hz0 := short_of hI0 (by assumption)
  k_steps
  refine law_begin (by k_asm) (by k_asm) (by assumption) (by assumption) (by assumption) (by assumption) (by assumption) (by assumption) hcp (by with_reducible assumption) (by with_reducible assumption) (by with_reducible assumption) (by with_reducible assumption) (by assumption) (.cons _ _ (.cons _ _ (.cons _ _ (.cons _ _ .nil)))) (by assumption) ?_
  intro b sp spo nx hbp hbk F2 N2 hH hND hbo9 hbs9
  subst hbp hbk
  clear hpn hA9 hM9 hI0 hz0
  unfold Hold
  k_steps
  refine loop_names (by k_asm) (by k_asm) R' (by with_reducible assumption) (by with_reducible assumption) (.cons _ _ (.cons _ _ .nil)) rfl (by with_reducible assumption) hH (by decide) hND (by with_reducible assumption) (by with_reducible assumption) (by with_reducible assumption) (by with_reducible assumption) ?_
  clear F' N' R' hH hND hpr
  intro mn m1 m2 sl us vs z tz nx M F3 N3 R3 hmn hus huz hsl hH hND hok1 hok2 hsy1 hsy2
  refine loopR (LwJ _ m1 m2 b sp spo cs1 n1 sl (listOf us.toArray 0) (mlaw z tz sl b.bk m1.x m2.x b.p M)) (by exact rfl) R3 (by omega) (by passes_own) (fun _ _ => rfl) F3 N3 (.mk nx S0 ⟨0, 0, 0⟩ _ _ _ rfl hsl hH agree0 grow0 sound0 (mapE3 fun _ _ _ _ => rfl)) ?turn ?done
  case turn =>
    clear F3 N3 R3 hH hsl
    intro i t5 m5 nx5 h5 tk5 I oI hi hJ hnx F5 N5
    refine hideT fun Qt hQt => ?_
    obtain ⟨nx0, S, K, a0, b0, c0, rfl, hsl, hH, hAg, hGr, hSd, rfl⟩ := hJ
    have hMF := fit_of hGr hAg (by omega)
    have hpr9 := two_apart (oI := oI) hnx hsl
    k_steps
    have hMF2 := fit_of (grow_step hGr hGS) hAg2 (by omega)
    refine loopL (vs := us) (n := 0) (fun j mm nx => ∃ nx0 c1, nx = (I, oI) :: (sl, listOf us.toArray 0) :: nx0 ∧ (∀ p ∈ [(I, oI), (sl, listOf us.toArray 0)], ∀ q ∈ nx0, q.1 ≠ p.1) ∧ LawL _ m1 m2 b sp spo cs1 n1 (calDo S c9) (calDo S c9) K9 (3 + 80 * (i : Int) + 20 + 30 * (j : Int)) nx0 ∧
      mm = fun y => if y = Str.ofString "spot" then c1 else if y = Str.ofString "call" then some v9 else if y = Str.ofString "turn" then some (.int (i : Int) t5) else mlaw z tz sl b.bk m1.x m2.x b.p M y)
      (by exact rfl) (fun i m nx hj => by obtain ⟨nx0, c1, rfl, _⟩ := hj; exact .tail _ (.head _)) (by passes_own) (fun _ _ => rfl) (by k_asm) (by k_asm) ⟨nx', _, rfl, hpr, hH.le (by omega), mapE1 fun y hy => by
        by_cases z1 : y = Str.ofString "call"
        · simp only [if_pos z1]
        · by_cases z2 : y = Str.ofString "turn"
          · simp only [if_neg z1, if_pos z2]
          · simp only [if_neg z1, if_neg z2, if_neg hy]⟩ ?turn2 ?done2
    case turn2 =>
      clear hH F' N' hpr hpr9
      intro j v m6 nx6 h6 tk6 I2 oI2 hvj hJ hnx2 F6 N6
      refine hideT fun Qt2 hQt2 => ?_
      obtain ⟨nx1, c1, rfl, hpr, hH, rfl⟩ := hJ
      obtain ⟨ks, ts, rfl, hkj⟩ := ints_at hus hvj
      have hj2 : j < us.length := (List.getElem?_eq_some_iff.mp hvj).1
      have hpr8 := three_apart (oI2 := oI2) hnx2 hpr
      k_steps
      · refine hQt2 _ _ ?_
        show TEnd _ _ _ _ _ _ _
        refine tEnd (nx' := (I, oI) :: (sl, listOf us.toArray 0) :: nx') (by k_asm) (by k_asm) (List.forall_mem_cons.mpr ⟨hnx2 _ (.head _), List.forall_mem_cons.mpr ⟨hnx2 _ (.tail _ (.head _)), fun q hq => hpr _ (.head _) q hq⟩⟩) ?_
        exact ⟨nx', _, rfl, fun p hp => hpr p (.tail _ hp), hH.le (by omega), mapE1 fun y hy => by simp only [if_neg hy]⟩
      · refine hQt2 _ _ ?_
        show TEnd _ _ _ _ _ _ _
        refine tEnd (nx' := (I, oI) :: (sl, listOf us.toArray 0) :: nx1) (by k_asm) (by k_asm) hnx2 ?_
        exact ⟨nx1, _, rfl, fun p hp => hpr8 p (.tail _ hp), hH.le (by omega), mapE1 fun y hy => by simp only [if_neg hy]⟩
    case done2 =>
      clear hH F' N' hpr hpr9
      intro m6 nx6 h6 tk6 hJ F6 N6
      obtain ⟨nx1, c1, rfl, hpr, hH, rfl⟩ := hJ
      k_steps
      refine hQt _ _ ?_
      show TEnd _ _ _ _ _ _ _
      refine tEnd (nx' := (sl, listOf us.toArray 0) :: nx1) (by k_asm) (by k_asm) (List.forall_mem_cons.mpr ⟨hnx _ (.head _), fun q hq => hpr _ (.head _) q hq⟩) ?_
      exact .mk nx1 (calDo S c9) K9 _ _ _ rfl (fun q hq => hpr _ (.tail _ (.head _)) q hq) (hH.le (by rw [huz]; omega)) hAg2 (grow_step hGr hGS) (sound_step hSd hGr (by omega) hGS) (mapE3 fun y z1 z2 z3 => by simp only [if_neg z1, if_neg z2, if_neg z3])
  case done =>
    clear F3 N3 R3 hH hsl
    intro m5 nx5 h6 tk6 hJ F6 N6
    obtain ⟨nx0, S, K, a0, b0, c0, rfl, hsl, hH, hAg, hGr, hSd, rfl⟩ := hJ
    have hZ := msm_of hGr hSd hmn
    obtain ⟨g1, g2, g3, g4, g5, g6, g7⟩ := id hGr
    have hpr9 : ∀ p ∈ [(sl, listOf us.toArray 0)], ∀ q ∈ nx0, q.1 ≠ p.1 := fun p hp q hq => by rw [List.mem_singleton.mp hp]; exact hsl q hq
    k_steps
    refine same_eq hSd (News.subl N' fun p hp => List.mem_cons_of_mem _ hp) hD1 hD2 (by k_extra "law_room") ?_
    k_steps)
end Mine
theorem PySem.Challenge.cw_qd0059_01_holds : PySem.Challenge.rw_qd0059_01.Holds :=
  Mine.law_holds

import PyProof.Rows.All
import Wide.All
import OpenK.AllK
import Wide.FinOn
import Lean
import PySem.Challenge.RW_pq0617_01
open PySem PySem.W PyProof.Rows PySem.Calls PySem.Spec
set_option Elab.async false
set_option maxRecDepth 100000
set_option compiler.extract_closed false
namespace Mine
def topRunT (tb : String → Option Builtin) (p : Program) (w : World) (n₀ : Nat) (ann : Option Value) : Nat → SharedT → Thread → Option SharedT
  | 0, _, _ => none
  | n + 1, s, t => match through t with
    | true => some s
    | false => match stepOk n₀ ann t with
      | false => none
      | true => match stepT (denote tb) p w s t with
        | some (s', t') => topRunT tb p w n₀ ann n s' t'
        | none => none
theorem topRun_of {tb : String → Option Builtin} {p : Program} {w : World} {n₀ : Nat} {ann : Option Value} : ∀ {n : Nat} {s s' : SharedT} {t : Thread}, topRunT tb p w n₀ ann n s t = some s' → topRun tb p w n₀ ann n s.abs t = some s'.abs := by
  intro n
  induction n with
  | zero => intro s s' t h; cases h
  | succ n ih =>
    intro s s' t h
    rw [topRunT] at h
    rw [topRun]
    cases ht : through t with
    | true => rw [ht] at h; cases h; rfl
    | false =>
      rw [ht] at h
      cases hk : stepOk n₀ ann t with
      | false => rw [hk] at h; cases h
      | true =>
        rw [hk] at h
        cases hs : stepT (denote tb) p w s t with
        | none => rw [hs] at h; cases h
        | some r => rw [hs] at h; rw [stepT_spec hs]; exact ih h
def treeOf (h : Heap) : BT := (h.objs.toList.foldl (fun (x : BT × Nat) o => (x.1.ins x.2 o, x.2 + 1)) (BT.nil, 0)).1
noncomputable def topRunF (p : Program) (w : World) (n₀ : Nat) (ann : Option Value) : Nat → SharedT → Thread → Option SharedT
  | 0, _, _ => none
  | n + 1, s, t => match through t with
    | true => some s
    | false => match PySem.W.Fast.tw6613529449190102663 n₀ ann t with
      | false => none
      | true => match PySem.W.Fast.tw10156331382660048174 (PySem.W.Fast.tw11892475500146522536 PySem.W.Fast.tw14364793385576792824) p w s t with
        | some (s', t') => topRunF p w n₀ ann n s' t'
        | none => none
theorem topRunF_eq {p : Program} {w : World} {n₀ : Nat} {ann : Option Value} : ∀ (n : Nat) (s : SharedT) (t : Thread), topRunT treeTable p w n₀ ann n s t = topRunF p w n₀ ann n s t := by
  intro n
  induction n with
  | zero => intro s t; rfl
  | succ n ih =>
    intro s t
    rw [topRunT, topRunF]
    simp only [PySem.W.Fast.te6613529449190102663, PySem.W.Fast.te10156331382660048174, PySem.W.Fast.te11892475500146522536, PySem.W.Fast.te14364793385576792824]
    simp only [← PySem.W.Fast.te14364793385576792824, ih]
/-- the head's premise by three runs on the tree heap: what the top ends in is asked in three parts -/
theorem left_tree {p q : Program} {loose : List Str} {Xt : Shared → Bool} {α : Type} {Yf : Shared → α} {Ya : World → α} {N : Nat} {g0 : Bool} (nb : Nat) (ann : Option Value)
    (open_ : ∀ w : World, (fencedOpening treeTable p w N).map (fun s => (s.heap, s.gens, s.drawn, s.toks)) = some (boot_heap w.params, Array.mk [], boot_drawn, boot_toks))
    (same : ∀ P : Params, absHeap (treeOf (boot_heap P)) nb (boot_heap P).life = boot_heap P)
    (size : ∀ P : Params, ((boot_heap P).isNs mainGlobals && (Array.mk [] : Array GenState).size == 0, (boot_heap P).objs.size, (boot_heap P).nsMap mainGlobals "__annotations__") = (true, nb, ann))
    (endsA : ∀ (w : World) (os : OsState), (topRunF p w nb ann N ⟨treeOf (boot_heap w.params), nb, (boot_heap w.params).life, Array.mk [], boot_drawn, boot_toks, os⟩ (topStub p)).map (fun s =>
        ((staticsOk (importedModules p.main.body) (boot_heap w.params) s.abs.heap && namesBound p s.abs.heap && gensDone s.abs && laidKept (boot_heap w.params) s.abs.heap), (PySem.W.Fast.tw4187177175401517315 q loose (importedModules p.main.body) Xt g0 s.abs).1, (PySem.W.Fast.tw4187177175401517315 q loose (importedModules p.main.body) Xt g0 s.abs).2.1, (PySem.W.Fast.tw4187177175401517315 q loose (importedModules p.main.body) Xt g0 s.abs).2.2.2.1, (PySem.W.Fast.tw4187177175401517315 q loose (importedModules p.main.body) Xt g0 s.abs).2.2.2.2.1, (PySem.W.Fast.tw4187177175401517315 q loose (importedModules p.main.body) Xt g0 s.abs).2.2.2.2.2.2.1, (PySem.W.Fast.tw4187177175401517315 q loose (importedModules p.main.body) Xt g0 s.abs).2.2.2.2.2.2.2.2)) = some (true, expectedOf q, bltViewBooted, true, pinGoodD (drecsOf q), plainGoodD q loose, clsGoodW q loose))
    (endsB : ∀ (w : World) (os : OsState), (topRunF p w nb ann N ⟨treeOf (boot_heap w.params), nb, (boot_heap w.params).life, Array.mk [], boot_drawn, boot_toks, os⟩ (topStub p)).map (fun s =>
        ((PySem.W.Fast.tw4187177175401517315 q loose (importedModules p.main.body) Xt g0 s.abs).2.2.1, (PySem.W.Fast.tw4187177175401517315 q loose (importedModules p.main.body) Xt g0 s.abs).2.2.2.2.2.1, (PySem.W.Fast.tw4187177175401517315 q loose (importedModules p.main.body) Xt g0 s.abs).2.2.2.2.2.2.2.1)) = some (true, plainGoodE q (looseW q loose), wideGood q))
    (runC : ∀ (w : World) (os : OsState), (topRunF p w nb ann N ⟨treeOf (boot_heap w.params), nb, (boot_heap w.params).life, Array.mk [], boot_drawn, boot_toks, os⟩ (topStub p)).map (fun s =>
        (Yf s.abs)) = some (Ya w)) : LeftO p q loose Xt Yf Ya N g0 := fun w => by
  obtain ⟨⟨h, gs, d, k, os⟩, e, e'⟩ := Option.map_eq_some_iff.mp (open_ w)
  obtain ⟨rfl, rfl, rfl, rfl⟩ : h = boot_heap w.params ∧ gs = Array.mk [] ∧ d = boot_drawn ∧ k = boot_toks := by simpa using e'
  obtain ⟨z1, z2, z3⟩ : _ ∧ _ ∧ _ := by simpa only [Prod.mk.injEq] using size w.params
  obtain ⟨s1, r1, lA⟩ := Option.map_eq_some_iff.mp (endsA w os)
  have lB := endsB w os
  have lC := runC w os
  rw [r1, Option.map_some, Option.some.injEq] at lB lC
  simp only [Prod.mk.injEq] at lA lB
  obtain ⟨l1, a0, a1, a3, a4, a6, a8⟩ := lA
  obtain ⟨b2, b5, b7⟩ := lB
  have l2 : PySem.W.Fast.tw4187177175401517315 q loose (importedModules p.main.body) Xt g0 s1.abs = openGood q loose :=
    Prod.ext a0 (Prod.ext a1 (Prod.ext b2 (Prod.ext a3 (Prod.ext a4 (Prod.ext b5 (Prod.ext a6 (Prod.ext b7 a8)))))))
  rw [← PySem.W.Fast.te4187177175401517315] at l2
  rw [← topRunF_eq] at r1
  have r := topRun_of r1
  rw [SharedT.abs, same w.params] at r
  have t : topFrom treeTable p w N ⟨boot_heap w.params, Array.mk [], boot_drawn, boot_toks, os⟩ = some s1.abs := by
    unfold topFrom
    dsimp only
    rw [z1, z2, z3, r]
    show (match staticsOk (importedModules p.main.body) (boot_heap w.params) s1.abs.heap && namesBound p s1.abs.heap && gensDone s1.abs && laidKept (boot_heap w.params) s1.abs.heap with | true => _ | false => _) = _
    rw [l1]
  unfold openEnds
  rw [e]
  show (topFrom treeTable p w N _).map _ = _
  rw [t]
  exact congrArg some (Prod.ext l2 lC)
theorem boot_same : ∀ P : Params, absHeap (treeOf (boot_heap P)) 11 (boot_heap P).life = boot_heap P := fun P => by kernel_rfl
theorem boot_size : ∀ P : Params, ((boot_heap P).isNs mainGlobals && (Array.mk [] : Array GenState).size == 0, (boot_heap P).objs.size, (boot_heap P).nsMap mainGlobals "__annotations__") = (true, 11, some (.ref 6)) := fun P => by kernel_rfl
/-- the law's text, and the statements of it that the head looks at -/
abbrev theProg : Program := PySem.Challenge.rw_pq0617_01.row.toRowW.prog
def theView : Program := view theProg [0, 2, 3, 4, 5, 6, 7, 8, 10, 11, 12, 13, 15, 16, 17, 18, 20, 21, 22, 23, 24, 25, 27, 28, 29, 30, 31, 33, 34, 35, 36, 37, 38, 39, 40, 41, 42, 43, 44, 45, 46, 47, 48, 49, 50, 51, 52, 54, 56, 58, 59, 60, 61, 62, 63, 64, 65, 66]
def theLoose : List Str := [Str.ofString "LedgerError", Str.ofString "decimal", Str.ofString "quotient"]
/-- where the top's run begins: behind the boot, on the tree -/
noncomputable abbrev theStart (w : World) (os : OsState) : SharedT := ⟨treeOf (boot_heap w.params), 11, (boot_heap w.params).life, Array.mk [], boot_drawn, boot_toks, os⟩
set_option maxRecDepth 100000 in
theorem endsA : ∀ (w : World) (os : OsState), (topRunF theProg w 11 (some (.ref 6)) 8218 (theStart w os) (topStub theProg)).map (fun s =>
    ((staticsOk (importedModules theProg.main.body) (boot_heap w.params) s.abs.heap && namesBound theProg s.abs.heap && gensDone s.abs && laidKept (boot_heap w.params) s.abs.heap), (PySem.W.Fast.tw4187177175401517315 theView theLoose (importedModules theProg.main.body) (fun s => xlAt theView [] s && recOk PySem.Challenge.rw_pq0617_01.row.toRowW.records s) true s.abs).1, (PySem.W.Fast.tw4187177175401517315 theView theLoose (importedModules theProg.main.body) (fun s => xlAt theView [] s && recOk PySem.Challenge.rw_pq0617_01.row.toRowW.records s) true s.abs).2.1, (PySem.W.Fast.tw4187177175401517315 theView theLoose (importedModules theProg.main.body) (fun s => xlAt theView [] s && recOk PySem.Challenge.rw_pq0617_01.row.toRowW.records s) true s.abs).2.2.2.1, (PySem.W.Fast.tw4187177175401517315 theView theLoose (importedModules theProg.main.body) (fun s => xlAt theView [] s && recOk PySem.Challenge.rw_pq0617_01.row.toRowW.records s) true s.abs).2.2.2.2.1, (PySem.W.Fast.tw4187177175401517315 theView theLoose (importedModules theProg.main.body) (fun s => xlAt theView [] s && recOk PySem.Challenge.rw_pq0617_01.row.toRowW.records s) true s.abs).2.2.2.2.2.2.1, (PySem.W.Fast.tw4187177175401517315 theView theLoose (importedModules theProg.main.body) (fun s => xlAt theView [] s && recOk PySem.Challenge.rw_pq0617_01.row.toRowW.records s) true s.abs).2.2.2.2.2.2.2.2)) = some (true, expectedOf theView, bltViewBooted, true, pinGoodD (drecsOf theView), plainGoodD theView theLoose, clsGoodW theView theLoose) := fun w os => by kernel_rfl
set_option maxRecDepth 100000 in
theorem endsB : ∀ (w : World) (os : OsState), (topRunF theProg w 11 (some (.ref 6)) 8218 (theStart w os) (topStub theProg)).map (fun s =>
    ((PySem.W.Fast.tw4187177175401517315 theView theLoose (importedModules theProg.main.body) (fun s => xlAt theView [] s && recOk PySem.Challenge.rw_pq0617_01.row.toRowW.records s) true s.abs).2.2.1, (PySem.W.Fast.tw4187177175401517315 theView theLoose (importedModules theProg.main.body) (fun s => xlAt theView [] s && recOk PySem.Challenge.rw_pq0617_01.row.toRowW.records s) true s.abs).2.2.2.2.2.1, (PySem.W.Fast.tw4187177175401517315 theView theLoose (importedModules theProg.main.body) (fun s => xlAt theView [] s && recOk PySem.Challenge.rw_pq0617_01.row.toRowW.records s) true s.abs).2.2.2.2.2.2.2.1)) = some (true, plainGoodE theView (looseW theView theLoose), wideGood theView) := fun w os => by kernel_rfl
section
local macro_rules | `(tactic| refine $e:term) => do
  let mut isIt := false
  if e.raw.isOfKind `Lean.Parser.Term.app then
    if e.raw[0].getId.eraseMacroScopes == `holds_open || e.raw[0].getId.eraseMacroScopes == `PySem.W.holds_open then isIt := true
  unless isIt do Lean.Macro.throwUnsupported
  let pf ← `((by exact left_tree 11 (some (.ref 6)) (boot_open (by kernel_rfl) (by kernel_rfl) (fun s => by kernel_rfl)) boot_same boot_size (fun w os => cast (by kernel_rfl) (endsA w os)) (fun w os => cast (by kernel_rfl) (endsB w os)) (fun w os => by kernel_rfl)))
  let e' ← e.raw.replaceM fun s => do
    if s.isOfKind `Lean.Parser.Term.syntheticHole && s[1].getId.eraseMacroScopes == `hl then return some pf else return none
  `(tactic| refine' $(⟨e'⟩):term)
set_option maxRecDepth 100000 in
set_option maxHeartbeats 8000000 in
open_top hd for PySem.Challenge.rw_pq0617_01.row
end
set_option maxRecDepth 100000 in
theorem said : PySem.Challenge.rw_pq0617_01.wellSaid = true := by kernel_rfl
theorem filled : hd.heap_1 = hd.heap_1 ∧ PySem.Challenge.rw_pq0617_01 = PySem.Challenge.rw_pq0617_01 := by
  k_fill
  exact ⟨rfl, rfl⟩
/- the words (k_with, below) are asked ahead of the library's lines -/
local macro_rules | `(tactic| walk_at $s:str) => `(tactic| k_extra $s)
local macro_rules | `(tactic| walk_at "binaryOp Pow int int") => `(tactic| k_extra "binaryOp Pow int int 1")
local macro_rules | `(tactic| walk_at "binaryOp Pow int int") => `(tactic| k_extra "binaryOp Pow int int 2")
local macro_rules | `(tactic| walk_at "call builtin:len") => `(tactic| k_extra "call builtin:len 1")
local macro_rules | `(tactic| walk_at "call builtin:len") => `(tactic| k_extra "call builtin:len 2")
local macro_rules | `(tactic| walk_at "subscriptTail") => `(tactic| k_extra "subscriptTail 1")
local macro_rules | `(tactic| walk_at "subscriptTail") => `(tactic| k_extra "subscriptTail 2")
local macro_rules | `(tactic| walk_at "subscriptTail") => `(tactic| k_extra "subscriptTail 3")
local macro_rules | `(tactic| walk_at "call ref") => `(tactic| k_extra "call ref 1")
local macro_rules | `(tactic| walk_at "call ref") => `(tactic| k_extra "call ref 2")
local macro_rules | `(tactic| walk_at "call ref") => `(tactic| k_extra "call ref 3")
local macro_rules | `(tactic| walk_at "call ref") => `(tactic| k_extra "call ref 4")
local macro_rules | `(tactic| walk_at "call ref") => `(tactic| k_extra "call ref 5")
local macro_rules | `(tactic| walk_at "call ref") => `(tactic| k_extra "call ref 6")
local macro_rules | `(tactic| walk_at "eval Lambda") => `(tactic| k_extra "eval Lambda 1")
local macro_rules | `(tactic| walk_at "eval Lambda") => `(tactic| k_extra "eval Lambda 2")
local macro_rules | `(tactic| walk_at "call ref cons nil") => `(tactic| k_extra "call ref cons nil 1")
local macro_rules | `(tactic| walk_at "call ref cons nil") => `(tactic| k_extra "call ref cons nil 2")
/- a word's own names (its holes, cases, what it introduces) are made new at each use, as in a macro; (fail: where the word falls it is not tried once more as it stands) -/
local macro_rules | `(tactic| row_timed "fresh" (fail; ($t:tacticSeq))) => do
  let mut own : Lean.NameSet := {}
  for s in t.raw.topDown do
    if [`Lean.Parser.Term.syntheticHole, `Lean.Parser.Tactic.caseArg, `Lean.Parser.Tactic.intro, `Lean.Parser.Tactic.rename, `Lean.Parser.Term.letId].contains s.getKind then
      for u in s.topDown do
        if u.isIdent then own := own.insert u.getId
  let t' ← t.raw.replaceM fun s => do
    if s.isIdent && own.contains s.getId.getRoot then return some (Lean.mkIdentFrom s (← Lean.Macro.addMacroScope s.getId)) else return none
  `(tactic| ($(⟨t'⟩):tacticSeq))
local macro_rules | `(tactic| k_inst) => `(tactic| k_extra "m:inst")
local macro_rules | `(tactic| k_ne) => `(tactic| k_extra "m:ne")
local macro_rules | `(tactic| k_all) => `(tactic| k_extra "m:all")
local macro_rules | `(tactic| k_mem) => `(tactic| k_extra "m:mem")
local macro_rules | `(tactic| k_room) => `(tactic| k_extra "m:kroom")
theorem fresh_B0 : True ∧ True := by
  k_with_none
  w_top off
  first | (walk1; done) | exact ⟨trivial, trivial⟩
section
/-- everything of h but the addresses of mods stands in h' -/
def Kp (mods : List Addr) (h h' : Heap) : Prop := ∀ a o, h.get? a = some o → a ∉ mods → h'.get? a = some o
/-- what a call ends in -/
def Ret (s : Shared) (mods : List Addr) (Post : Heap → Value → Prop) (r : Result) (s' : Shared) : Prop :=
  ∃ v h' tk, r = .ok (.ret v) ∧ s' = { s with heap := h', toks := tk } ∧ Kp mods s.heap h' ∧ Post h' v
def Fn (w : World) (A : Around) (s : Shared) (f : Addr) (args : List Value) (mods : List Addr) (Post : Heap → Value → Prop) : Prop :=
  codeAny (model PySem.Challenge.rw_pq0617_01.row.prog w) A (.call (.ref f) ⟨args, []⟩) (Ret s mods Post) s
/-- what a body's end must show -/
def BodyEnd (g : Heap) (s₁ : Shared) (Post : Heap → Value → Prop) (v : Value) (s' : Shared) : Prop :=
  ∃ h' tk, s' = { s₁ with heap := h', toks := tk } ∧ (∀ b o, g.get? b = some o → h'.get? b = some o) ∧ Post h' v
abbrev AT (d u : Nat) : Around := { depth := d, units := u }
/-- room for n more -/
structure Rm (A : Around) : Prop where
  d : A.depth ≤ 900
  u : A.units ≤ 5000
section
variable {w : World} {A : Around} {s : Shared} {K : Frag} {hb : Heap} {p : Program} {loose : List Str} {mean : ExcName → Option Value} {mg mb : Str → Option Value}
theorem enter {name qual : Str} {params : Arguments} {body : List Stmt} {scope : Scope} {dV kV doc pm cdv ct oc : Value} {an od : Option Addr} {osl : Array (Option Value)} {f : Addr} {args : List Value} {binds : List (Str × Value)} {Post : Heap → Value → Prop}
    (news : List (Addr × Obj)) (X : K.In hb) (T : Top p loose mean mg mb hb) (hK : hb.StaysIn s.heap) (hN : ∀ q ∈ news, s.heap.get? q.1 = some q.2 ∧ hb.get? q.1 = none)
    (ho : K.lookup f = some ⟨oc, od, .func (fnOf name qual params body scope dV kV doc pm an cdv ct), osl⟩) (hcd : codeIn K cdv qual = true) (hroom : A.depth < recursionLimit)
    (hbind : BindsTo s (fnOf name qual params body scope dV kV doc pm an cdv ct) ⟨args, []⟩ binds) (hloc : ∀ y ∈ binds, scope.names.lookup y.1 = some .local)
    (h : ∀ g L' h₁, (∀ a o, s.heap.get? a = some o → a ∉ news.map Prod.fst → g.get? a = some o) → Fr g L' h₁ (fun y => binds.reverse.lookup y) → News g L' h₁ news → (∀ q ∈ news, q.1 < L') → K.In g → Top p loose mean mg mb g → hb.StaysIn g →
      wpAny (model PySem.Challenge.rw_pq0617_01.row.prog w) (A.deeper (envOf qual scope L' f cdv)) (execs body (envOf qual scope L' f cdv))
        (fun fl s' => BodyEnd g s Post (match fl with | .ret v => v | _ => .none) s') (fun _ _ => False)
        { s with heap := h₁, toks := s.toks + binds.length })
    (hco : scope.isCoroutine = false) (hgen : scope.isGenerator = false) (hk : scope.kind = .function) (hcell : ∀ x ∈ scope.names, x.2 ≠ .cell) :
    Fn w A s f args (news.map Prod.fst) Post := by
  have Xs : K.In s.heap := X.keeps hK
  have nm : ∀ b o, hb.get? b = some o → b ∉ news.map Prod.fst := fun b o e q => by
    obtain ⟨p, hp, rfl⟩ := List.mem_map.mp q
    rw [(hN p hp).2] at e; cases e
  have st : hb.StaysIn (hideAll s.heap (news.map Prod.fst)) := fun b o e => hideAll_get _ (hK b o e) (nm b o e)
  refine codeAny_call_def (fd := fnOf name qual params body scope dV kV doc pm an cdv ct) (body := body) (binds := binds) hroom (Xs _ _ ho) rfl (T.nolimit.keeps hK) (codeRec_of Xs hcd) rfl hbind hcell hloc (fun h₁ hns hk₁ => ?_) hco hgen hk
  refine wpAny_mono (h (hideAll s.heap (news.map Prod.fst)) s.heap.objs.size h₁ (fun a o e n => hideAll_get _ e n) ⟨hns, fun b o e => hk₁ b o (of_hideAll _ e), Nat.le_of_eq (hideAll_size _ _)⟩
    (fun q hq => ⟨hk₁ _ _ (hN q hq).1, Nat.ne_of_lt (Heap.lt_size (hN q hq).1), hideAll_none _ (List.mem_map_of_mem hq)⟩) (fun q hq => Heap.lt_size (hN q hq).1) (X.keeps st) (T.keeps st) st) (fun fl s' hl => ?_) fun _ _ y => y.elim
  obtain ⟨h', tk, e, hk', hp⟩ := hl
  exact ⟨_, h', tk, rfl, e, fun a o ea na => hk' a o (hideAll_get _ ea na), hp⟩
theorem enterC {name qual : Str} {params : Arguments} {body : List Stmt} {scope : Scope} {dV kV doc pm cdv ct oc : Value} {an od : Option Addr} {osl : Array (Option Value)} {f : Addr} {args : List Value} {binds : List (Str × Value)} {Post : Heap → Value → Prop}
    (news : List (Addr × Obj)) (X : K.In hb) (T : Top p loose mean mg mb hb) (hK : hb.StaysIn s.heap) (hN : ∀ q ∈ news, s.heap.get? q.1 = some q.2 ∧ hb.get? q.1 = none)
    (ho : K.lookup f = some ⟨oc, od, .func (fnOf name qual params body scope dV kV doc pm an cdv ct), osl⟩) (hcd : codeIn K cdv qual = true) (hroom : A.depth < recursionLimit)
    (hbind : BindsTo s (fnOf name qual params body scope dV kV doc pm an cdv ct) ⟨args, []⟩ binds) (hkind : (binds.all fun y => scope.names.lookup y.1 == some .local || scope.names.lookup y.1 == some .cell) = true)
    (hnd : ((cellsFrom 0 scope.names []).map (·.1)).Nodup)
    (h : ∀ g L' h₁ tk cells, (∀ a o, s.heap.get? a = some o → a ∉ news.map Prod.fst → g.get? a = some o) → Fr g L' h₁ (bindL (envOfC qual scope L' f cdv).kindOf binds fun _ => none) → News g L' h₁ (cells ++ news) →
      CellsAre (bindC (envOfC qual scope L' f cdv).kindOf binds fun _ => none) (cellsFrom (L' + 1) scope.names []) cells → (∀ q ∈ news, q.1 < L') → K.In g → Top p loose mean mg mb g → hb.StaysIn g → (∀ b o, g.get? b = some o → s.heap.get? b = some o) →
      wpAny (model PySem.Challenge.rw_pq0617_01.row.prog w) (A.deeper (envOfC qual scope L' f cdv)) (execs body (envOfC qual scope L' f cdv))
        (fun fl s' => BodyEnd g s Post (match fl with | .ret v => v | _ => .none) s') (fun _ _ => False)
        { s with heap := h₁, toks := tk })
    (hco : scope.isCoroutine = false) (hgen : scope.isGenerator = false) (hk : scope.kind = .function) :
    Fn w A s f args (news.map Prod.fst) Post := by
  have Xs : K.In s.heap := X.keeps hK
  have nm : ∀ b o, hb.get? b = some o → b ∉ news.map Prod.fst := fun b o e q => by
    obtain ⟨p, hp, rfl⟩ := List.mem_map.mp q
    rw [(hN p hp).2] at e; cases e
  have st : hb.StaysIn (hideAll s.heap (news.map Prod.fst)) := fun b o e => hideAll_get _ (hK b o e) (nm b o e)
  refine codeAny_call_function (fd := fnOf name qual params body scope dV kV doc pm an cdv ct) hroom (Xs _ _ ho) rfl hco hgen rfl (codeRec_of Xs hcd) (hbind _ _ _ _ ?_)
  refine wpAny_newFunctionEnv_cells hk (kindsX hkind _) fun env' he s' x => ?_
  subst he
  refine ⟨(T.nolimit.keeps hK).keeps x.toInCall.keep, codeAny_func ?_⟩
  obtain ⟨h₁, tk, rfl, _⟩ := x.done
  have hk₁ := x.toInCall.keep
  obtain ⟨cells, NC, Y⟩ := Cl.news (h₀ := s.heap) (Nat.le_refl _) fun n c hm => ⟨x.cell n c (lookup_of_mem_nodup (cellsFrom_names scope.names 0 (s.heap.objs.size + 1) [] [] rfl ▸ hnd) hm), x.above n c hm⟩
  refine wpAny_mono (h (hideAll s.heap (news.map Prod.fst)) s.heap.objs.size h₁ tk cells (fun a o e n => hideAll_get _ e n) ⟨x.toInCall.ns, fun b o e => hk₁ b o (of_hideAll _ e), Nat.le_of_eq (hideAll_size _ _)⟩ (fun p hp => ?_) Y (fun q hq => Heap.lt_size (hN q hq).1) (X.keeps st) (T.keeps st) st (fun b o e => of_hideAll _ e)) (fun fl s' hl => ?_) fun _ _ y => y.elim
  · rcases List.mem_append.mp hp with hp | hp
    · refine ⟨(NC p hp).1, (NC p hp).2.1, ?_⟩
      cases q : (hideAll s.heap (news.map Prod.fst)).get? p.1 with
      | none => rfl
      | some o => have := of_hideAll _ q; rw [(NC p hp).2.2] at this; cases this
    · exact ⟨hk₁ _ _ (hN p hp).1, Nat.ne_of_lt (Heap.lt_size (hN p hp).1), hideAll_none _ (List.mem_map_of_mem hp)⟩
  · obtain ⟨h', tk, e, hk', hp⟩ := hl
    exact ⟨_, h', tk, rfl, e, fun a o ea na => hk' a o (hideAll_get _ ea na), hp⟩
theorem use {f : Addr} {args : List Value} {mods : List Addr} {Post : Heap → Value → Prop} {h₀ : Heap} {L : Addr} {m : Str → Option Value} {news : List (Addr × Obj)} {Q : Value → Shared → Prop} {E : Value → Shared → Prop}
    (hf : Fn w A s f args mods Post) (F : Fr h₀ L s.heap m) (N : News h₀ L s.heap news) (hm : ∀ a ∈ mods, ∃ o, (a, o) ∈ news)
    (h : ∀ v h' tk, Kp mods s.heap h' → Fr h₀ L h' m → News h₀ L h' (news.filter fun q => !mods.contains q.1) → Post h' v → Q v { s with heap := h', toks := tk }) :
    wpAny (model PySem.Challenge.rw_pq0617_01.row.prog w) A (call (.ref f) args) Q E s := by
  refine wpAny_call (codeAny_mono hf fun r s' hr => ?_)
  obtain ⟨v, h', tk, rfl, rfl, hk, hp⟩ := hr
  obtain ⟨oL, es, ep, hL, hLd, hLk, hLf⟩ := F.ns
  have nL : L ∉ mods := fun q => by
    obtain ⟨o, ho⟩ := hm L q
    exact (N _ ho).2.1 rfl
  have n0 : ∀ b o, h₀.get? b = some o → b ∉ mods := fun b o e q => by
    obtain ⟨o', ho⟩ := hm b q
    rw [(N _ ho).2.2] at e; cases e
  refine h v h' tk hk ⟨⟨oL, es, ep, hk L oL hL nL, hLd, hLk, hLf⟩, fun b o e => hk b o (F.keep b o e) (n0 b o e), F.above⟩ (fun q hq => ?_) hp
  obtain ⟨hq, hn⟩ := List.mem_filter.mp hq
  refine ⟨hk _ _ (N q hq).1 (by simpa using hn), (N q hq).2⟩
end
theorem codeAny_weak {M : Model} {A : Around} {d u : Nat} {c : Code} {R : Result → Shared → Prop} {s : Shared} (h : codeAny M (AT d u) c R s) (hh : A.handled = none) (hd : A.depth ≤ d) (hu : A.units ≤ u) : codeAny M A c R s :=
  fun Γ p hc hΓ => h Γ p hc ⟨hΓ.1.trans hh, Nat.le_trans hΓ.2.1 hd, fun _ e => (nomatch e), fun _ e => (nomatch e), Nat.le_trans hΓ.2.2.2.2 hu⟩
theorem use2 {w : World} {A : Around} {s : Shared} {f : Addr} {args : List Value} {mods : List Addr} {Post : Heap → Value → Prop} {h₀ : Heap} {L : Addr} {m : Str → Option Value} {news : List (Addr × Obj)} {Q : Value → Shared → Prop} {E : Value → Shared → Prop} {d u : Nat}
    (hf : Fn w (AT d u) s f args mods Post) (hh : A.handled = none) (hd : A.depth ≤ d) (hu : A.units ≤ u) (F : Fr h₀ L s.heap m) (N : News h₀ L s.heap news) (hm : ∀ a ∈ mods, ∃ o, (a, o) ∈ news)
    (h : ∀ v h' tk, Fr h₀ L h' m → (∀ q ∈ news, q.1 ∉ mods → News h₀ L h' [q]) → (∀ q : Addr × Obj, h'.get? q.1 = some q.2 → q.1 ∈ mods ∨ s.heap.get? q.1 = none → News h₀ L h' [q]) → Post h' v → Q v { s with heap := h', toks := tk }) :
    wpAny (model PySem.Challenge.rw_pq0617_01.row.prog w) A (call (.ref f) args) Q E s := by
  refine wpAny_call (codeAny_mono (codeAny_weak hf hh hd hu) fun r s' hr => ?_)
  obtain ⟨v, h', tk, rfl, rfl, hk, hp⟩ := hr
  obtain ⟨oL, es, ep, hL, hLd, hLk, hLf⟩ := F.ns
  have nL : L ∉ mods := fun q => by
    obtain ⟨o, ho⟩ := hm L q
    exact (N _ ho).2.1 rfl
  have n0 : ∀ b o, h₀.get? b = some o → b ∉ mods := fun b o e q => by
    obtain ⟨o', ho⟩ := hm b q
    rw [(N _ ho).2.2] at e; cases e
  refine h v h' tk ⟨⟨oL, es, ep, hk L oL hL nL, hLd, hLk, hLf⟩, fun b o e => hk b o (F.keep b o e) (n0 b o e), F.above⟩ (fun q hq hn p hp => ?_) (fun q hq hc p hp => ?_) hp
  · rw [List.mem_singleton.mp hp]
    exact ⟨hk _ _ (N q hq).1 hn, (N q hq).2⟩
  · rw [List.mem_singleton.mp hp]
    refine ⟨hq, ?_, ?_⟩
    · rintro e
      rcases hc with hc | hc
      · exact nL (e ▸ hc)
      · rw [e, hL] at hc; cases hc
    · cases e : h₀.get? q.1 with
      | none => rfl
      | some o =>
        rcases hc with hc | hc
        · exact absurd hc (n0 _ _ e)
        · have := F.keep _ _ e
          rw [hc] at this; cases this
theorem news_cons {h₀ h : Heap} {L : Addr} {q : Addr × Obj} {l : List (Addr × Obj)} (a : News h₀ L h [q]) (b : News h₀ L h l) : News h₀ L h (q :: l) := fun p hp => by
  rcases List.mem_cons.mp hp with rfl | hp
  · exact a _ (.head _)
  · exact b _ hp
theorem news_app {h₀ h : Heap} {L : Addr} {k l : List (Addr × Obj)} (a : News h₀ L h k) (b : News h₀ L h l) : News h₀ L h (k ++ l) := fun p hp => by
  rcases List.mem_append.mp hp with hp | hp
  · exact a _ hp
  · exact b _ hp
theorem news_all {h₀ h : Heap} {L : Addr} {l : List (Addr × Obj)} (a : ∀ q ∈ l, News h₀ L h [q]) : News h₀ L h l := fun p hp => a p hp p (.head _)
theorem news_sub {h₀ h : Heap} {L : Addr} {k l : List (Addr × Obj)} (a : News h₀ L h k) (b : ∀ q ∈ l, q ∈ k) : News h₀ L h l := fun p hp => a p (b p hp)
theorem my_pow {prog : Program} {w : World} {A : Around} {E : Value → Shared → Prop} {s : Shared} {a n : Int} {t u : Tok} {Q : Value → Shared → Prop} (hn : 0 ≤ n) (hn' : n ≤ 64) (h0 : 0 ≤ a) (h1 : a < 2 ^ 64)
    (h : ∀ r : Int, 0 ≤ r → Q (.int r s.toks) { s with toks := s.toks + 1 }) : wpAny (model prog w) A (binaryOp .Pow (.int a t) (.int n u)) Q E s := by
  refine pow_int hn ?_ (h _ (Int.pow_nonneg h0))
  have hb : Builtin.Int.intBits a ≤ 64 := intBits_le_64 (by omega) h1
  have h2 : (Builtin.Int.intBits a : Int) * n ≤ 64 * 64 := Int.mul_le_mul (by omega) hn' hn (by omega)
  omega
theorem pow5_bnd {c spot : Int} (h0 : 0 ≤ spot) (h1 : spot < 1000) : 0 ≤ c.fmod 2147483587 + 80153 * spot + 6007 ∧ c.fmod 2147483587 + 80153 * spot + 6007 < 2 ^ 64 := by
  have a1 := fmod_lo c (n := 2147483587) (by decide)
  have a2 := fmod_hi c (n := 2147483587) (by decide)
  omega
theorem pow3_bnd {c spot : Int} (hc : 0 ≤ c) (hc' : c < 2147483629) (h0 : 0 ≤ spot) (h1 : spot < 1000) :
    0 ≤ c * (2 * spot + 3011) + 701 * spot * spot + 37 ∧ c * (2 * spot + 3011) + 701 * spot * spot + 37 < 2 ^ 64 := by
  have a1 : 0 ≤ c * (2 * spot + 3011) := Int.mul_nonneg hc (by omega)
  have a2 : c * (2 * spot + 3011) ≤ 2147483629 * 5011 := Int.mul_le_mul (by omega) (by omega) (by omega) (by omega)
  have a3 : 0 ≤ 701 * spot * spot := Int.mul_nonneg (by omega) h0
  have a4 : 701 * spot * spot ≤ 701000 * 1000 := Int.mul_le_mul (by omega) (by omega) h0 (by omega)
  omega
end
theorem fresh_C1 : True ∧ True := by
  k_with_none
  (k_with "binaryOp Pow int int 1" => row_timed "fresh" (fail; (((with_reducible refine Mine.my_pow ?kb1 ?kb2 ?kb3 ?kb4 ?_); (case kb1 => decide); (case kb2 => decide); (case kb3 => first | decide | (with_reducible exact (Mine.pow3_bnd (PySem.W.fmod_lo _ (by decide)) (PySem.W.fmod_hi _ (by decide)) (by assumption) (by assumption)).1) | (with_reducible exact (Mine.pow5_bnd (by assumption) (by assumption)).1)); (case kb4 => first | decide | (with_reducible exact (Mine.pow3_bnd (PySem.W.fmod_lo _ (by decide)) (PySem.W.fmod_hi _ (by decide)) (by assumption) (by assumption)).2) | (with_reducible exact (Mine.pow5_bnd (by assumption) (by assumption)).2)); intro r' hr'))))
  (k_with "m:kroom" => row_timed "fresh" (fail; ((simp only [PyProof.Rows.depth_deeper, PySem.recursionLimit] at *; omega))))
  w_top off
  first | (walk1; done) | exact ⟨trivial, trivial⟩
section
set_option maxHeartbeats 1000000 in
theorem draw_ok {w : World} {d u : Nat} {s : Shared} {hb : Heap} {p : Program} {loose : List Str} {mean : ExcName → Option Value} {mg mb : Str → Option Value}
    (X : (hd.heap_1 w.params).In hb) (T : Top p loose mean mg mb hb) (hK : hb.StaysIn s.heap)
    (a I : Addr) (cells : List Value) (ns : List Int) (spot left many : Int) (t0 t1 t2 : Tok) (n' : Nat)
    (hI : s.heap.IsList I cells.toArray) (hns : IntsAre cells ns) (hln : ns.length ≤ 63) (hIa : I ≠ a) (ha : s.heap.get? a = some (W.listOf #[.ref I, .int spot t1, .int left t2] n')) (hf : hb.get? a = none)
    (hD : (AT d u).depth ≤ 900) (hU : (AT d u).units ≤ 5000)
    (h0 : 0 ≤ spot) (h1 : spot < 1000) (h3 : 1 ≤ many) (h4 : many ≤ 64) :
    Fn w (AT d u) s 527 [.ref a, .int many t0] [a] (fun h v => ∃ d t, v = .int d t ∧ 0 ≤ d ∧ d < many ∧
      ∃ spot' left' t1' t2' n'', h.get? a = some (W.listOf #[.ref I, .int spot' t1', .int left' t2'] n'') ∧ spot ≤ spot' ∧ spot' ≤ spot + 1) := by
  refine enter (K := hd.heap_1 w.params) (binds := [(Str.ofString "pen", .ref a), (Str.ofString "many", .int many t0)]) [(a, W.listOf #[.ref I, .int spot t1, .int left t2] n')] X T hK ?_ (by k_is) (by k_is) (by k_room) (BindsTo.of_eq rfl) (locs rfl) ?_ rfl rfl rfl (by decide)
  · intro q hq; cases hq with
    | head => exact ⟨ha, hf⟩
    | tail _ h => cases h
  intro g' L' h' Kg F' N' l1 X' T' S'
  k_lt l1
  have hIg : g'.IsList I cells.toArray := by
    obtain ⟨o, ho, r⟩ := hI
    exact ⟨o, Kg I o ho (by intro hm; exact hIa (by simpa using hm)), r⟩
  clear hI X T hK
  show wpAny _ _ _ _ _ _
  k_fold
  w_strict (k_steps)
  all_goals (try dsimp only)
  all_goals (first
    | (refine ⟨_, _, rfl, Fr.keep (by assumption), _, _, rfl, fmod_lo _ (by omega), fmod_hi _ (by omega), _, _, _, _, _, News.get (by assumption) (by k_mem), by omega, by omega⟩)
    | (exfalso; simp_all; done)
    | skip)
end
theorem fresh_C2 : True ∧ True := by
  k_with_none
  (k_with "binaryOp Pow int int 1" => row_timed "fresh" (fail; (((with_reducible refine Mine.my_pow ?kb1 ?kb2 ?kb3 ?kb4 ?_); (case kb1 => decide); (case kb2 => decide); (case kb3 => first | decide | (with_reducible exact (Mine.pow3_bnd (PySem.W.fmod_lo _ (by decide)) (PySem.W.fmod_hi _ (by decide)) (by assumption) (by assumption)).1) | (with_reducible exact (Mine.pow5_bnd (by assumption) (by assumption)).1)); (case kb4 => first | decide | (with_reducible exact (Mine.pow3_bnd (PySem.W.fmod_lo _ (by decide)) (PySem.W.fmod_hi _ (by decide)) (by assumption) (by assumption)).2) | (with_reducible exact (Mine.pow5_bnd (by assumption) (by assumption)).2)); intro r' hr'))))
  (k_with "m:kroom" => row_timed "fresh" (fail; ((simp only [PyProof.Rows.depth_deeper, PySem.recursionLimit] at *; omega))))
  w_top off
  first | (walk1; done) | exact ⟨trivial, trivial⟩
section
inductive Cn where
  | leaf (v : Value) (k : Nat)
  | neg (c : Cn)
  | con (isOr : Bool) (a b : Cn)
def Cn.deep : Cn → Nat
  | .leaf _ _ => 0
  | .neg c => c.deep + 1
  | .con _ a b => max a.deep b.deep + 1
def letter : Nat → Str
  | 0 => Str.ofString "A"
  | 1 => Str.ofString "B"
  | 2 => Str.ofString "C"
  | _ => Str.ofString "D"
abbrev tupOf (vs : Array Value) (n : Nat) : Obj := { cls := .type "tuple", data := .seq vs n }
/-- the tuples of a condition stand where P says -/
inductive CnAt (P : Addr → Obj → Prop) : Value → Cn → Prop where
  | leaf {a b e1 e2 : Addr} {k n1 n2 n3 n4 : Nat} {t1 t2 t3 t4 : Tok} {x : Str} (hk : k < 4) (hx : x = letter k) (ha : P a (tupOf #[.str (Str.ofString "sign") t1, .str (Str.ofString "ZERO") t2, .ref b] n1))
      (hb : P b (tupOf #[.str (Str.ofString "ref") t3, .str x t4, .ref e1, .ref e2, .none] n2)) (he1 : P e1 (tupOf #[] n3)) (he2 : P e2 (tupOf #[] n4)) : CnAt P (.ref a) (.leaf (.ref a) k)
  | neg {a : Addr} {v : Value} {c : Cn} {n : Nat} {t : Tok} (ha : P a (tupOf #[.str (Str.ofString "not") t, v] n)) (hc : CnAt P v c) : CnAt P (.ref a) (.neg c)
  | con {a : Addr} {v1 v2 : Value} {c1 c2 : Cn} {o : Bool} {n : Nat} {t : Tok} (ha : P a (tupOf #[.str (if o then Str.ofString "or" else Str.ofString "and") t, v1, v2] n)) (h1 : CnAt P v1 c1) (h2 : CnAt P v2 c2) : CnAt P (.ref a) (.con o c1 c2)
theorem CnAt.mono {P P' : Addr → Obj → Prop} {v : Value} {c : Cn} (h : CnAt P v c) (k : ∀ a o, P a o → P' a o) : CnAt P' v c := by
  induction h with
  | leaf hk hx ha hb he1 he2 => exact .leaf hk hx (k _ _ ha) (k _ _ hb) (k _ _ he1) (k _ _ he2)
  | neg ha _ ih => exact .neg (k _ _ ha) ih
  | con ha _ _ i1 i2 => exact .con (k _ _ ha) i1 i2
/-- the list of what stands -/
theorem CnAt.list {P : Addr → Obj → Prop} {v : Value} {c : Cn} (h : CnAt P v c) : ∃ R : List (Addr × Obj), (∀ q ∈ R, P q.1 q.2) ∧ CnAt (fun a o => (a, o) ∈ R) v c := by
  induction h with
  | @leaf a b e1 e2 k n1 n2 n3 n4 t1 t2 t3 t4 x hk hx ha hb he1 he2 =>
    refine ⟨[(a, tupOf #[.str (Str.ofString "sign") t1, .str (Str.ofString "ZERO") t2, .ref b] n1), (b, tupOf #[.str (Str.ofString "ref") t3, .str x t4, .ref e1, .ref e2, .none] n2), (e1, tupOf #[] n3), (e2, tupOf #[] n4)], ?_, .leaf hk hx (.head _) (.tail _ (.head _)) (.tail _ (.tail _ (.head _))) (.tail _ (.tail _ (.tail _ (.head _))))⟩
    intro q hq
    simp only [List.mem_cons, List.mem_nil_iff, or_false] at hq
    rcases hq with rfl | rfl | rfl | rfl <;> assumption
  | @neg a v c n t ha _ ih =>
    obtain ⟨R, hR, hc⟩ := ih
    refine ⟨(a, tupOf #[.str (Str.ofString "not") t, v] n) :: R, ?_, .neg (.head _) (hc.mono fun _ _ h => .tail _ h)⟩
    intro q hq
    rcases List.mem_cons.mp hq with rfl | hq
    · exact ha
    · exact hR q hq
  | @con a v1 v2 c1 c2 o n t ha _ _ i1 i2 =>
    obtain ⟨R1, hR1, hc1⟩ := i1
    obtain ⟨R2, hR2, hc2⟩ := i2
    refine ⟨(a, tupOf #[.str (if o then Str.ofString "or" else Str.ofString "and") t, v1, v2] n) :: (R1 ++ R2), ?_, .con (.head _) (hc1.mono fun _ _ h => .tail _ (List.mem_append.mpr (.inl h))) (hc2.mono fun _ _ h => .tail _ (List.mem_append.mpr (.inr h)))⟩
    intro q hq
    rcases List.mem_cons.mp hq with rfl | hq
    · exact ha
    · rcases List.mem_append.mp hq with hq | hq
      · exact hR1 q hq
      · exact hR2 q hq
section
variable {w : World} {d u : Nat} {hb : Heap} {p : Program} {loose : List Str} {mean : ExcName → Option Value} {mg mb : Str → Option Value} {A : Around} {s : Shared} {g : Heap} {L : Addr} {m : Str → Option Value} {Q : Value → Shared → Prop} {E : Value → Shared → Prop}
theorem draw_use (X : (hd.heap_1 w.params).In g) (T : Top p loose mean mg mb g) (hh : A.handled = none) (hd : A.depth ≤ 900) (hu : A.units ≤ 5000)
    (a I : Addr) (cells : List Value) (ns : List Int) (spot left many : Int) (t0 t1 t2 : Tok) (n' : Nat) (rest : List (Addr × Obj))
    (F : Fr g L s.heap m) (N : News g L s.heap ((a, W.listOf #[.ref I, .int spot t1, .int left t2] n') :: rest)) (ho : ∀ q ∈ rest, q.1 ≠ a)
    (hI : g.IsList I cells.toArray) (hns : IntsAre cells ns) (hln : ns.length ≤ 63)
    (h0 : 0 ≤ spot) (h1 : spot < 1000) (h3 : 1 ≤ many) (h4 : many ≤ 64)
    (h : ∀ d t spot' left' t1' t2' n'' h' tk, 0 ≤ d → d < many → spot ≤ spot' → spot' ≤ spot + 1 → Fr g L h' m → News g L h' ((a, W.listOf #[.ref I, .int spot' t1', .int left' t2'] n'') :: rest) → Q (.int d t) { s with heap := h', toks := tk }) :
    wpAny (model PySem.Challenge.rw_pq0617_01.row.prog w) A (call (.ref 527) [.ref a, .int many t0]) Q E s := by
  have hN := N _ (.head _)
  have hIs : s.heap.IsList I cells.toArray := by
    obtain ⟨o, ho, r⟩ := hI
    exact ⟨o, F.keep _ _ ho, r⟩
  have hIa : I ≠ a := by
    obtain ⟨o, hoI, r⟩ := hI
    rintro rfl
    have hq := hN.2.2
    rw [show g.get? (I, W.listOf #[Value.ref I, Value.int spot t1, Value.int left t2] n').fst = g.get? I from rfl, hoI] at hq; cases hq
  refine use2 (d := 900) (u := 5000) (draw_ok X T F.keep a I cells ns spot left many t0 t1 t2 n' hIs hns hln hIa hN.1 hN.2.2 (Nat.le_refl _) (Nat.le_refl _) h0 h1 h3 h4) hh hd hu F N ?_ ?_
  · intro b hb
    rw [List.mem_singleton.mp hb]
    exact ⟨_, .head _⟩
  · rintro v h' tk F' k1 k2 ⟨d, t, rfl, hd0, hd1, spot', left', t1', t2', n'', hg, hs0, hs1⟩
    refine h d t spot' left' t1' t2' n'' h' tk hd0 hd1 hs0 hs1 F' (news_cons (k2 _ hg (.inl (List.mem_singleton.mpr rfl))) (news_all fun q hq => k1 q (.tail _ hq) fun hm => ho q hq (List.mem_singleton.mp hm)))
end
end
theorem fresh_C3 : True ∧ True := by
  k_with_none
  (k_with "binaryOp Pow int int 1" => row_timed "fresh" (fail; (((with_reducible refine Mine.my_pow ?kb1 ?kb2 ?kb3 ?kb4 ?_); (case kb1 => decide); (case kb2 => decide); (case kb3 => first | decide | (with_reducible exact (Mine.pow3_bnd (PySem.W.fmod_lo _ (by decide)) (PySem.W.fmod_hi _ (by decide)) (by assumption) (by assumption)).1) | (with_reducible exact (Mine.pow5_bnd (by assumption) (by assumption)).1)); (case kb4 => first | decide | (with_reducible exact (Mine.pow3_bnd (PySem.W.fmod_lo _ (by decide)) (PySem.W.fmod_hi _ (by decide)) (by assumption) (by assumption)).2) | (with_reducible exact (Mine.pow5_bnd (by assumption) (by assumption)).2)); intro r' hr'))))
  (k_with "m:kroom" => row_timed "fresh" (fail; ((simp only [PyProof.Rows.depth_deeper, PySem.recursionLimit] at *; omega))))
  w_top off
  first | (walk1; done) | exact ⟨trivial, trivial⟩
section
def dr : Nat → Int
  | 0 => 2
  | n + 1 => 2 * dr n + 1
theorem dr_two : ∀ n, 2 ≤ dr n
  | 0 => Int.le_refl _
  | n + 1 => by have := dr_two n; simp only [dr]; omega
def CondOk (w : World) (n : Nat) : Prop :=
  ∀ {d u : Nat} {s : Shared} {hb : Heap} {p : Program} {loose : List Str} {mean : ExcName → Option Value} {mg mb : Str → Option Value}
    (_ : (hd.heap_1 w.params).In hb) (_ : Top p loose mean mg mb hb) (_ : hb.StaysIn s.heap)
    (a I : Addr) (cells : List Value) (ns : List Int) (spot left k : Int) (t0 t1 t2 : Tok) (n' : Nat)
    (_ : s.heap.IsList I cells.toArray) (_ : IntsAre cells ns) (_ : ns.length ≤ 63) (_ : I ≠ a) (_ : s.heap.get? a = some (W.listOf #[.ref I, .int spot t1, .int left t2] n')) (_ : hb.get? a = none)
    (_ : d + n + 20 ≤ 900) (_ : u + 10 * n + 40 ≤ 5000) (_ : 0 ≤ spot) (_ : spot + dr n < 1000) (_ : k = (n : Int)),
    Fn w (AT d u) s 534 [.ref a, .int k t0] [a] (fun h v => ∃ c spot' left' t1' t2' n'', CnAt (fun b o => h.get? b = some o ∧ s.heap.get? b = none) v c ∧ c.deep ≤ n ∧
      h.get? a = some (W.listOf #[.ref I, .int spot' t1', .int left' t2'] n'') ∧ spot ≤ spot' ∧ spot' ≤ spot + dr n)
theorem cond_use {w : World} {n : Nat} (H : CondOk w n) {p : Program} {loose : List Str} {mean : ExcName → Option Value} {mg mb : Str → Option Value} {A : Around} {s : Shared} {g : Heap} {L : Addr} {m : Str → Option Value} {Q : Value → Shared → Prop} {E : Value → Shared → Prop}
    (X : (hd.heap_1 w.params).In g) (T : Top p loose mean mg mb g) (hh : A.handled = none) (hd : A.depth + n + 20 ≤ 900) (hu : A.units + 10 * n + 40 ≤ 5000)
    (a I : Addr) (cells : List Value) (ns : List Int) (spot left k : Int) (t0 t1 t2 : Tok) (n' : Nat) (rest : List (Addr × Obj))
    (F : Fr g L s.heap m) (N : News g L s.heap ((a, W.listOf #[.ref I, .int spot t1, .int left t2] n') :: rest)) (ho : ∀ q ∈ rest, q.1 ≠ a)
    (hI : g.IsList I cells.toArray) (hns : IntsAre cells ns) (hln : ns.length ≤ 63)
    (h0 : 0 ≤ spot) (h1 : spot + dr n < 1000) (hk : k = (n : Int))
    (h : ∀ v c R spot' left' t1' t2' n'' h' tk, CnAt (fun b o => (b, o) ∈ R) v c → c.deep ≤ n → (∀ q ∈ R, q.1 ≠ a) → spot ≤ spot' → spot' ≤ spot + dr n → Fr g L h' m →
      News g L h' ((a, W.listOf #[.ref I, .int spot' t1', .int left' t2'] n'') :: (R ++ rest)) → Q v { s with heap := h', toks := tk }) :
    wpAny (model PySem.Challenge.rw_pq0617_01.row.prog w) A (call (.ref 534) [.ref a, .int k t0]) Q E s := by
  have hN := N _ (.head _)
  have hIs : s.heap.IsList I cells.toArray := by
    obtain ⟨o, ho, r⟩ := hI
    exact ⟨o, F.keep _ _ ho, r⟩
  have hIa : I ≠ a := by
    obtain ⟨o, hoI, r⟩ := hI
    rintro rfl
    have hq := hN.2.2
    rw [show g.get? (I, W.listOf #[Value.ref I, Value.int spot t1, Value.int left t2] n').fst = g.get? I from rfl, hoI] at hq; cases hq
  refine use2 (d := A.depth) (u := A.units) (H X T F.keep a I cells ns spot left k t0 t1 t2 n' hIs hns hln hIa hN.1 hN.2.2 hd hu h0 h1 hk) hh (Nat.le_refl _) (Nat.le_refl _) F N ?_ ?_
  · intro b hb
    rw [List.mem_singleton.mp hb]
    exact ⟨_, .head _⟩
  · rintro v h' tk F' k1 k2 ⟨c, spot', left', t1', t2', n'', hc, hdp, hg, hs0, hs1⟩
    obtain ⟨R, hR, hcR⟩ := hc.list
    refine h v c R spot' left' t1' t2' n'' h' tk hcR hdp (fun q hq e => ?_) hs0 hs1 F' (news_cons (k2 _ hg (.inl (List.mem_singleton.mpr rfl))) (news_app (news_all fun q hq => k2 q (hR q hq).1 (.inr (hR q hq).2)) (news_all fun q hq => k1 q (.tail _ hq) fun hm => ho q hq (List.mem_singleton.mp hm))))
    have := (hR q hq).2
    rw [e, hN.1] at this; cases this
theorem fresh_of {s : Shared} {g h : Heap} {L a0 : Addr} {o0 : Obj} {news : List (Addr × Obj)} (Kg : ∀ a o, s.heap.get? a = some o → a ∉ List.map Prod.fst [(a0, o0)] → g.get? a = some o) (N : News g L h news) {b : Addr} {o : Obj} (hq : (b, o) ∈ news) (hn : b ≠ a0) :
    h.get? b = some o ∧ s.heap.get? b = none := by
  refine ⟨(N _ hq).1, ?_⟩
  cases e : s.heap.get? b with
  | none => rfl
  | some o' =>
    have := Kg b o' e (by simpa using hn)
    rw [(N _ hq).2.2] at this; cases this
theorem letter_of {x : Int} (h0 : 0 ≤ x) (h1 : x < 4) : Txt.item (Str.ofString "ABCD") x = letter x.toNat := by
  have : x = 0 ∨ x = 1 ∨ x = 2 ∨ x = 3 := by omega
  rcases this with rfl | rfl | rfl | rfl <;> decide +kernel
set_option maxHeartbeats 4000000 in
theorem cond_step (w : World) (n : Nat) (ih : ∀ m, m + 1 = n → CondOk w m) : CondOk w n := by
  intro d u s hb p loose mean mg mb X T hK a I cells ns spot left k t0 t1 t2 n' hI hns hln hIa ha hf hD hU h0 h1 hk
  refine enter (K := hd.heap_1 w.params) (binds := [(Str.ofString "pen", .ref a), (Str.ofString "deep", .int k t0)]) [(a, W.listOf #[.ref I, .int spot t1, .int left t2] n')] X T hK ?_ (by k_is) (by k_is) (by simp only [recursionLimit]; omega) (BindsTo.of_eq rfl) (locs rfl) ?_ rfl rfl rfl (by decide)
  · intro q hq; cases hq with
    | head => exact ⟨ha, hf⟩
    | tail _ h => cases h
  intro g' L' h' Kg F' N' l1 X' T' S'
  k_lt l1
  have hIg : g'.IsList I cells.toArray := by
    obtain ⟨o, ho, r⟩ := hI
    exact ⟨o, Kg I o ho (by intro hm; exact hIa (by simpa using hm)), r⟩
  clear hI X T hK
  cases n with
  | zero =>
    show wpAny _ _ _ _ _ _
    k_fold
    w_strict (k_steps)
    all_goals (try (exfalso; omega))
    refine draw_use X' T' rfl (by show d + 1 ≤ 900; omega) (by show u + 3 ≤ 5000; omega) a I cells ns _ _ _ _ _ _ _ [] (by assumption) (by assumption) (fun _ h => nomatch h) hIg hns hln (by omega) (by have := dr_two 0; omega) (by decide) (by decide) ?_
    intro dd td sp1 lf1 t1' t2' n1 h1' tk1 hd0 hd1 hs0 hs1 F1 N1
    (try clear F' N')
    (try dsimp only)
    w_strict (k_steps)
    all_goals (try (exfalso; omega))
    refine draw_use X' T' rfl (by show d + 1 ≤ 900; omega) (by show u + 3 ≤ 5000; omega) a I cells ns _ _ _ _ _ _ _ [] (by assumption) (by assumption) (fun _ h => nomatch h) hIg hns hln (by omega) (by have := dr_two 0; omega) (by decide) (by decide) ?_
    intro dd2 td2 sp2 lf2 t12 t22 n2 h2' tk2 hd02 hd12 hs02 hs12 F2 N2
    (try clear F' N')
    (try dsimp only)
    w_strict (k_steps)
    show BodyEnd _ _ _ _ _
    refine ⟨_, _, rfl, Fr.keep (by assumption), _, sp2, lf2, t12, t22, n2, (.leaf (by omega) (letter_of hd02 hd12) (fresh_of Kg (by assumption) (by k_mem) (by k_ne)) (fresh_of Kg (by assumption) (by k_mem) (by k_ne)) (fresh_of Kg (by assumption) (by k_mem) (by k_ne)) (fresh_of Kg (by assumption) (by k_mem) (by k_ne))), Nat.le_refl _, News.get (by assumption) (by k_mem), by omega, by simp only [dr]; omega⟩
  | succ m =>
    have H : CondOk w m := ih m rfl
    have h2 := dr_two m
    simp only [dr] at h1
    show wpAny _ _ _ _ _ _
    k_fold
    w_strict (k_steps)
    all_goals (try (exfalso; omega))
    refine draw_use X' T' rfl (by show d + 1 ≤ 900; omega) (by show u + 3 ≤ 5000; omega) a I cells ns _ _ _ _ _ _ _ [] (by assumption) (by assumption) (fun _ h => nomatch h) hIg hns hln (by omega) (by omega) (by decide) (by decide) ?_
    intro dd td sp1 lf1 t1' t2' n1 h1' tk1 hd0 hd1 hs0 hs1 F1 N1
    (try clear F' N')
    (try dsimp only)
    w_strict (k_steps)
    all_goals (try (exfalso; omega))
    · refine draw_use X' T' rfl (by show d + 1 ≤ 900; omega) (by show u + 3 ≤ 5000; omega) a I cells ns _ _ _ _ _ _ _ [] (by assumption) (by assumption) (fun _ h => nomatch h) hIg hns hln (by omega) (by omega) (by decide) (by decide) ?_
      intro dd2 td2 sp2 lf2 t12 t22 n2 h2' tk2 hd02 hd12 hs02 hs12 F2 N2
      (try clear F' N')
      (try dsimp only)
      w_strict (k_steps)
      show BodyEnd _ _ _ _ _
      refine ⟨_, _, rfl, Fr.keep (by assumption), _, sp2, lf2, t12, t22, n2, (.leaf (by omega) (letter_of hd02 hd12) (fresh_of Kg (by assumption) (by k_mem) (by k_ne)) (fresh_of Kg (by assumption) (by k_mem) (by k_ne)) (fresh_of Kg (by assumption) (by k_mem) (by k_ne)) (fresh_of Kg (by assumption) (by k_mem) (by k_ne))), Nat.zero_le _, News.get (by assumption) (by k_mem), by omega, by simp only [dr]; omega⟩
    · refine cond_use H X' T' rfl (by show d + 1 + m + 20 ≤ 900; omega) (by show u + 3 + 10 * m + 40 ≤ 5000; omega) a I cells ns _ _ _ _ _ _ _ [] (by assumption) (by assumption) (fun _ h => nomatch h) hIg hns hln (by omega) (by omega) (by omega) ?_
      intro v c R sp2 lf2 t12 t22 n2 h2' tk2 hc hcd hRa hs02 hs12 F2 N2
      (try clear F' N')
      (try dsimp only)
      w_strict (k_steps)
      show BodyEnd _ _ _ _ _
      refine ⟨_, _, rfl, Fr.keep (by assumption), .neg c, sp2, lf2, t12, t22, n2, .neg (fresh_of Kg (by assumption) (by k_mem) (by k_ne)) (hc.mono fun b o hbo => fresh_of Kg (by assumption) (.tail _ (.tail _ (List.mem_append.mpr (.inl hbo)))) (hRa _ hbo)), by simp only [Cn.deep]; omega, News.get (by assumption) (by k_mem), by omega, by simp only [dr]; omega⟩
    · refine cond_use H X' T' rfl (by show d + 1 + m + 20 ≤ 900; omega) (by show u + 3 + 10 * m + 40 ≤ 5000; omega) a I cells ns _ _ _ _ _ _ _ [] (by assumption) (news_sub (by assumption) (fun q hq => .tail _ hq)) (fun _ h => nomatch h) hIg hns hln (by omega) (by omega) (by omega) ?_
      intro v c R sp2 lf2 t12 t22 n2 h2' tk2 hc hcd hRa hs02 hs12 F2 N2
      (try clear F' N')
      (try dsimp only)
      w_strict (k_steps)
      refine cond_use H X' T' rfl (by show d + 1 + m + 20 ≤ 900; omega) (by show u + 3 + 10 * m + 40 ≤ 5000; omega) a I cells ns _ _ _ _ _ _ _ (R ++ []) (by assumption) (by assumption) (by simpa using hRa) hIg hns hln (by omega) (by omega) (by omega) ?_
      intro v3 c3 R3 sp3 lf3 t13 t23 n3 h3' tk3 hc3 hcd3 hRa3 hs03 hs13 F3 N3
      (try clear F' N')
      (try dsimp only)
      w_strict (k_steps)
      show BodyEnd _ _ _ _ _
      refine ⟨_, _, rfl, Fr.keep (by assumption), .con false c c3, sp3, lf3, t13, t23, n3, .con (fresh_of Kg (by assumption) (by k_mem) (by k_ne)) (hc.mono fun b o hbo => fresh_of Kg (by assumption) (.tail _ (.tail _ (List.mem_append.mpr (.inr (List.mem_append.mpr (.inl hbo)))))) (hRa _ hbo)) (hc3.mono fun b o hbo => fresh_of Kg (by assumption) (.tail _ (.tail _ (List.mem_append.mpr (.inl hbo)))) (hRa3 _ hbo)), by simp only [Cn.deep]; omega, News.get (by assumption) (by k_mem), by omega, by simp only [dr]; omega⟩
    · refine cond_use H X' T' rfl (by show d + 1 + m + 20 ≤ 900; omega) (by show u + 3 + 10 * m + 40 ≤ 5000; omega) a I cells ns _ _ _ _ _ _ _ [] (by assumption) (news_sub (by assumption) (fun q hq => .tail _ hq)) (fun _ h => nomatch h) hIg hns hln (by omega) (by omega) (by omega) ?_
      intro v c R sp2 lf2 t12 t22 n2 h2' tk2 hc hcd hRa hs02 hs12 F2 N2
      (try clear F' N')
      (try dsimp only)
      w_strict (k_steps)
      refine cond_use H X' T' rfl (by show d + 1 + m + 20 ≤ 900; omega) (by show u + 3 + 10 * m + 40 ≤ 5000; omega) a I cells ns _ _ _ _ _ _ _ (R ++ []) (by assumption) (by assumption) (by simpa using hRa) hIg hns hln (by omega) (by omega) (by omega) ?_
      intro v3 c3 R3 sp3 lf3 t13 t23 n3 h3' tk3 hc3 hcd3 hRa3 hs03 hs13 F3 N3
      (try clear F' N')
      (try dsimp only)
      w_strict (k_steps)
      show BodyEnd _ _ _ _ _
      refine ⟨_, _, rfl, Fr.keep (by assumption), .con true c c3, sp3, lf3, t13, t23, n3, .con (fresh_of Kg (by assumption) (by k_mem) (by k_ne)) (hc.mono fun b o hbo => fresh_of Kg (by assumption) (.tail _ (.tail _ (List.mem_append.mpr (.inr (List.mem_append.mpr (.inl hbo)))))) (hRa _ hbo)) (hc3.mono fun b o hbo => fresh_of Kg (by assumption) (.tail _ (.tail _ (List.mem_append.mpr (.inl hbo)))) (hRa3 _ hbo)), by simp only [Cn.deep]; omega, News.get (by assumption) (by k_mem), by omega, by simp only [dr]; omega⟩
theorem cond_ok (w : World) : ∀ n, CondOk w n
  | 0 => cond_step w 0 fun m h => absurd h (Nat.succ_ne_zero m)
  | n + 1 => cond_step w (n + 1) fun m h => Nat.succ.inj h ▸ cond_ok w n
end
theorem fresh_C4 : True ∧ True := by
  k_with_none
  (k_with "binaryOp Pow int int 1" => row_timed "fresh" (fail; (((with_reducible refine Mine.my_pow ?kb1 ?kb2 ?kb3 ?kb4 ?_); (case kb1 => decide); (case kb2 => decide); (case kb3 => first | decide | (with_reducible exact (Mine.pow3_bnd (PySem.W.fmod_lo _ (by decide)) (PySem.W.fmod_hi _ (by decide)) (by assumption) (by assumption)).1) | (with_reducible exact (Mine.pow5_bnd (by assumption) (by assumption)).1)); (case kb4 => first | decide | (with_reducible exact (Mine.pow3_bnd (PySem.W.fmod_lo _ (by decide)) (PySem.W.fmod_hi _ (by decide)) (by assumption) (by assumption)).2) | (with_reducible exact (Mine.pow5_bnd (by assumption) (by assumption)).2)); intro r' hr'))))
  (k_with "m:kroom" => row_timed "fresh" (fail; ((simp only [PyProof.Rows.depth_deeper, PySem.recursionLimit] at *; omega))))
  w_top off
  first | (walk1; done) | exact ⟨trivial, trivial⟩
section
theorem fresh_in {s : Shared} {g h : Heap} {L : Addr} {mods : List Addr} {news : List (Addr × Obj)} (Kg : ∀ a o, s.heap.get? a = some o → a ∉ mods → g.get? a = some o) (N : News g L h news) {b : Addr} {o : Obj} (hq : (b, o) ∈ news) (hn : b ∉ mods) :
    s.heap.get? b = none := by
  cases e : s.heap.get? b with
  | none => rfl
  | some o' =>
    have := Kg b o' e hn
    rw [(N _ hq).2.2] at this; cases this
set_option maxHeartbeats 4000000 in
theorem pen_ok {w : World} {d u : Nat} {s : Shared} {hb : Heap} {p : Program} {loose : List Str} {mean : ExcName → Option Value} {mg mb : Str → Option Value}
    (X : (hd.heap_1 w.params).In hb) (T : Top p loose mean mg mb hb) (hK : hb.StaysIn s.heap)
    (S : Addr) (vs : List Value) (ns : List Int) (hI : s.heap.IsList S vs.toArray) (hns : IntsAre vs ns) (hln : ns.length ≤ 63)
    (hD : (AT d u).depth ≤ 900) (hU : (AT d u).units ≤ 5000) :
    Fn w (AT d u) s 520 [.ref S] [] (fun h v => ∃ a I cells ns' t1 t2 n', v = .ref a ∧ h.get? a = some (W.listOf #[.ref I, .int 0 t1, .int 0 t2] n') ∧ h.IsList I cells.toArray ∧ IntsAre cells ns' ∧ ns'.length ≤ 63 ∧
      s.heap.get? a = none ∧ s.heap.get? I = none ∧ I ≠ a) := by
  refine enter (K := hd.heap_1 w.params) (binds := [(Str.ofString "script", .ref S)]) [] X T hK (fun _ h => nomatch h) (by k_is) (by k_is) (by k_room) (BindsTo.of_eq rfl) (locs rfl) ?_ rfl rfl rfl (by decide)
  intro g' L' h' Kg F' N' l1 X' T' S'
  k_lt l1
  have hIg : g'.IsList S vs.toArray := by
    obtain ⟨o, ho, r⟩ := hI
    exact ⟨o, Kg S o ho (by simp), r⟩
  clear hI X T hK
  show wpAny _ _ _ _ _ _
  k_fold
  w_strict (k_steps)
  show BodyEnd _ _ _ _ _
  refine ⟨_, _, rfl, Fr.keep (by assumption), _, _, ys, _, _, _, _, rfl, News.get (by assumption) (by k_mem), ⟨LCg.lst ys, News.get (by assumption) (by k_mem), rfl, _, rfl⟩, by assumption, by simp; omega, fresh_in Kg (by assumption) (by k_mem) (by simp), fresh_in Kg (by assumption) (.tail _ (.head _)) (by simp), by k_ne⟩
end
theorem fresh_C5 : True ∧ True := by
  k_with_none
  (k_with "binaryOp Pow int int 1" => row_timed "fresh" (fail; (((with_reducible refine Mine.my_pow ?kb1 ?kb2 ?kb3 ?kb4 ?_); (case kb1 => decide); (case kb2 => decide); (case kb3 => first | decide | (with_reducible exact (Mine.pow3_bnd (PySem.W.fmod_lo _ (by decide)) (PySem.W.fmod_hi _ (by decide)) (by assumption) (by assumption)).1) | (with_reducible exact (Mine.pow5_bnd (by assumption) (by assumption)).1)); (case kb4 => first | decide | (with_reducible exact (Mine.pow3_bnd (PySem.W.fmod_lo _ (by decide)) (PySem.W.fmod_hi _ (by decide)) (by assumption) (by assumption)).2) | (with_reducible exact (Mine.pow5_bnd (by assumption) (by assumption)).2)); intro r' hr'))))
  (k_with "m:kroom" => row_timed "fresh" (fail; ((simp only [PyProof.Rows.depth_deeper, PySem.recursionLimit] at *; omega))))
  w_top off
  first | (walk1; done) | exact ⟨trivial, trivial⟩
section
theorem inst_base {g h : Heap} {L x dx C : Addr} {m : Str → Option Value} {sl : Array (Option Value)} {od : Obj} (F : Fr g L h m) (h1 : g.get? x = some ⟨.ref C, some dx, .plain, sl⟩) (h2 : g.get? dx = some od) :
    InstAt h x ⟨.ref C, some dx, .plain, sl⟩ C (some od) := ⟨F.keep _ _ h1, rfl, rfl, F.keep _ _ h2⟩
theorem word_1 : True := by
  (k_with "m:inst" => row_timed "fresh" (fail; (exact inst_base (by k_asm) (by k_asm) (by k_asm))))
  trivial
theorem len_news {w : World} {A : Around} {E : Value → Shared → Prop} {s : Shared} {g : Heap} {L l : Addr} {news : List (Addr × Obj)} {vs : List Value} {n : Nat} {Q : Value → Shared → Prop} (N : News g L s.heap news) (hm : (l, W.listOf vs.toArray n) ∈ news) (hb : vs.length ≤ 5000)
    (h : Q (.int (vs.length : Nat) (s.toks + 1)) { s with toks := s.toks + 1 + 1 }) : wpAny (model PySem.Challenge.rw_pq0617_01.row.prog w) A (call (.builtin "len") [.ref l]) Q E s := by
  refine len_list (News.isList N hm) ?_ ?_
  · simp only [List.size_toArray]; omega
  · simpa only [List.size_toArray] using h
theorem word_2 : True := by
  (k_with "call builtin:len 1" => row_timed "fresh" (fail; (((with_reducible show wpAny _ _ (call (Value.builtin "len") [Value.ref _]) _ _ _); refine len_news (by k_asm) (by k_mem) (by simp only [List.length_append, List.length_cons, List.length_nil]; omega) ?_))))
  trivial
theorem len_base {w : World} {A : Around} {E : Value → Shared → Prop} {s : Shared} {g : Heap} {L l : Addr} {m : Str → Option Value} {vs : List Value} {n : Nat} {Q : Value → Shared → Prop} (F : Fr g L s.heap m) (hm : g.get? l = some (W.listOf vs.toArray n)) (hb : vs.length ≤ 5000)
    (h : Q (.int (vs.length : Nat) (s.toks + 1)) { s with toks := s.toks + 1 + 1 }) : wpAny (model PySem.Challenge.rw_pq0617_01.row.prog w) A (call (.builtin "len") [.ref l]) Q E s := by
  refine len_list (items := vs.toArray) ⟨_, F.keep _ _ hm, rfl, _, rfl⟩ ?_ ?_
  · simp only [List.size_toArray]; omega
  · simpa only [List.size_toArray] using h
theorem word_3 : True := by
  (k_with "call builtin:len 2" => row_timed "fresh" (fail; (((with_reducible show wpAny _ _ (call (Value.builtin "len") [Value.ref _]) _ _ _); refine len_base (by k_asm) (by k_asm) (by omega) ?_))))
  trivial
theorem setItem_news {w : World} {A : Around} {E : Value → Shared → Prop} {s : Shared} {g : Heap} {L D : Addr} {m : Str → Option Value} {news news' : List (Addr × Obj)} {its : Array Value} {n : Nat} {k : Int} {t : Tok} {v : Value} {Q : Unit → Shared → Prop} (F : Fr g L s.heap m) (N : News g L s.heap news)
    (U : Upd D (W.listOf its n) (W.listOf (its.setIfInBounds k.toNat v) n) news news') (h0 : 0 ≤ k) (hk : k < its.size) (hs : its.size ≤ 5000)
    (h : ∀ h', Fr g L h' m → News g L h' news' → Q () { s with heap := h' }) : wpAny (model PySem.Challenge.rw_pq0617_01.row.prog w) A (setItem (.ref D) (.int k t) v) Q E s := by
  obtain ⟨pre, post, rfl, rfl, a, b⟩ := U.split
  have z := N (D, W.listOf its n) (List.mem_append.mpr (.inr (.head _)))
  refine ki_setAt z.1 h0 (by omega) hk (h _ (F.change (Heap.SameBut.update ..) z.2.1 z.2.2) (ki_turn _ N a b rfl ?_))
  simp
theorem word_4 : True := by
  (k_with "setItem ref int" => row_timed "fresh" (fail; ((k_dflt (refine' setItem_news ?k1 ?k2 ?k3 ?k4 ?k5 ?k6 ?_; (case k1 => k_asm); (case k2 => k_asm); (case k3 => k_upd); (case k4 => omega); (case k5 => (simp only [List.size_toArray]; omega)); (case k6 => (simp only [List.size_toArray]; omega)); k_whole); intro h' F' N'; (try k_sweep)))))
  trivial
theorem getSet {h : Heap} {a : Addr} {vs : List Value} {i n : Nat} {v : Value} (e : h.get? a = some (W.listOf (vs.toArray.setIfInBounds i v) n)) : h.get? a = some (W.listOf (vs.set i v).toArray n) := by
  rw [← List.setIfInBounds_toArray]; exact e
theorem getPush {h : Heap} {a : Addr} {vs : List Value} {n : Nat} {v : Value} (e : h.get? a = some (W.listOf (vs.toArray.push v) n)) : h.get? a = some (W.listOf (vs ++ [v]).toArray n) := by
  rw [← List.push_toArray]; exact e
theorem intEq {x y : Int} {t : Tok} (h : x = y) : Value.int x t = Value.int y t := by rw [h]
theorem nin1 {a b : Addr} {o : Obj} (h : a ≠ b) : a ∉ List.map Prod.fst [(b, o)] := fun hm => h (List.mem_singleton.mp hm)
abbrev drE (w : World) (t1 t2 t3 t4 t5 t6 : Tok) (pr : Value) (o pl hs : Addr) : List DictEntry :=
  [⟨PyData.keyHash w.params (Str.ofString "procedures"), .str (Str.ofString "procedures") t1, pr⟩, ⟨PyData.keyHash w.params (Str.ofString "ops"), .str (Str.ofString "ops") t2, .ref o⟩,
   ⟨PyData.keyHash w.params (Str.ofString "places"), .str (Str.ofString "places") t3, .ref pl⟩, ⟨PyData.keyHash w.params (Str.ofString "slots"), .str (Str.ofString "slots") t4, .int 0 t6⟩,
   ⟨PyData.keyHash w.params (Str.ofString "heads"), .str (Str.ofString "heads") t5, .ref hs⟩]
set_option maxHeartbeats 4000000 in
theorem fresh_ok {w : World} {d u : Nat} {s : Shared} {hb : Heap} {p : Program} {loose : List Str} {mean : ExcName → Option Value} {mg mb : Str → Option Value}
    (X : (hd.heap_1 w.params).In hb) (T : Top p loose mean mg mb hb) (hK : hb.StaysIn s.heap)
    (x dx o pl hs : Addr) (t1 t2 t3 t4 t5 t6 : Tok) (pr : Value) (nd n : Nat) (pvs : List Value)
    (hx : s.heap.get? x = some (instObj 117 dx)) (hdx : s.heap.get? dx = some (dictOf (drE w t1 t2 t3 t4 t5 t6 pr o pl hs) nd)) (hpl : s.heap.get? pl = some (W.listOf pvs.toArray n)) (hf : hb.get? pl = none) (hlen : pvs.length ≤ 1000)
    (hD : (AT d u).depth ≤ 900) (hU : (AT d u).units ≤ 5000) :
    Fn w (AT d u) s 81 [.ref x] [pl] (fun h v => ∃ t t' n', v = .int (pvs.length : Nat) t ∧ h.get? pl = some (W.listOf (pvs ++ [Value.int (-1) t']).toArray n')) := by
  refine enter (K := hd.heap_1 w.params) (binds := [(Str.ofString "self", .ref x)]) [(pl, W.listOf pvs.toArray n)] X T hK ?_ (by k_is) (by k_is) (by k_room) (BindsTo.of_eq rfl) (locs rfl) ?_ rfl rfl rfl (by decide)
  · intro q hq; cases hq with
    | head => exact ⟨hpl, hf⟩
    | tail _ h => cases h
  intro g' L' h' Kg F' N' l1 X' T' S'
  k_lt l1
  have hxg : g'.get? x = some (instObj 117 dx) := Kg _ _ hx (nin1 (PySem.W.X.ne_objs _ _ _ _ hx hpl rfl))
  have hdg : g'.get? dx = some (dictOf (drE w t1 t2 t3 t4 t5 t6 pr o pl hs) nd) := Kg _ _ hdx (nin1 (PySem.W.X.ne_objs _ _ _ _ hdx hpl rfl))
  show wpAny _ _ _ _ _ _
  k_fold
  w_strict (k_steps)
  show BodyEnd _ _ _ _ _
  refine ⟨_, _, rfl, Fr.keep (by assumption), _, _, _, intEq (by simp), News.get (by assumption) (by k_mem)⟩
set_option maxHeartbeats 4000000 in
theorem put_ok {w : World} {d u : Nat} {s : Shared} {hb : Heap} {p : Program} {loose : List Str} {mean : ExcName → Option Value} {mg mb : Str → Option Value}
    (X : (hd.heap_1 w.params).In hb) (T : Top p loose mean mg mb hb) (hK : hb.StaysIn s.heap)
    (x dx o pl hs : Addr) (t1 t2 t3 t4 t5 t6 : Tok) (pr v : Value) (nd n : Nat) (ovs : List Value)
    (hx : s.heap.get? x = some (instObj 117 dx)) (hdx : s.heap.get? dx = some (dictOf (drE w t1 t2 t3 t4 t5 t6 pr o pl hs) nd)) (ho : s.heap.get? o = some (W.listOf ovs.toArray n)) (hf : hb.get? o = none) (hlen : ovs.length ≤ 1000)
    (hD : (AT d u).depth ≤ 900) (hU : (AT d u).units ≤ 5000) :
    Fn w (AT d u) s 95 [.ref x, v] [o] (fun h r => r = .none ∧ ∃ n', h.get? o = some (W.listOf (ovs ++ [v]).toArray n')) := by
  refine enter (K := hd.heap_1 w.params) (binds := [(Str.ofString "self", .ref x), (Str.ofString "op", v)]) [(o, W.listOf ovs.toArray n)] X T hK ?_ (by k_is) (by k_is) (by k_room) (BindsTo.of_eq rfl) (locs rfl) ?_ rfl rfl rfl (by decide)
  · intro q hq; cases hq with
    | head => exact ⟨ho, hf⟩
    | tail _ h => cases h
  intro g' L' h' Kg F' N' l1 X' T' S'
  k_lt l1
  have hxg : g'.get? x = some (instObj 117 dx) := Kg _ _ hx (nin1 (PySem.W.X.ne_objs _ _ _ _ hx ho rfl))
  have hdg : g'.get? dx = some (dictOf (drE w t1 t2 t3 t4 t5 t6 pr o pl hs) nd) := Kg _ _ hdx (nin1 (PySem.W.X.ne_objs _ _ _ _ hdx ho rfl))
  show wpAny _ _ _ _ _ _
  k_fold
  w_strict (k_steps)
  show BodyEnd _ _ _ _ _
  refine ⟨_, _, rfl, Fr.keep (by assumption), rfl, n + 1, getPush (News.get (by assumption) (by k_mem))⟩
set_option maxHeartbeats 4000000 in
theorem here_ok {w : World} {d u : Nat} {s : Shared} {hb : Heap} {p : Program} {loose : List Str} {mean : ExcName → Option Value} {mg mb : Str → Option Value}
    (X : (hd.heap_1 w.params).In hb) (T : Top p loose mean mg mb hb) (hK : hb.StaysIn s.heap)
    (x dx o pl hs : Addr) (t1 t2 t3 t4 t5 t6 tl : Tok) (pr : Value) (nd n m : Nat) (ovs pvs : List Value) (i : Int)
    (hx : s.heap.get? x = some (instObj 117 dx)) (hdx : s.heap.get? dx = some (dictOf (drE w t1 t2 t3 t4 t5 t6 pr o pl hs) nd)) (ho : s.heap.get? o = some (W.listOf ovs.toArray n)) (hpl : s.heap.get? pl = some (W.listOf pvs.toArray m)) (hne : o ≠ pl) (hf : hb.get? pl = none)
    (hlo : ovs.length ≤ 1000) (hlp : pvs.length ≤ 1000) (hi0 : 0 ≤ i) (hi1 : i < pvs.length)
    (hD : (AT d u).depth ≤ 900) (hU : (AT d u).units ≤ 5000) :
    Fn w (AT d u) s 88 [.ref x, .int i tl] [pl] (fun h r => r = .none ∧ ∃ n' t', h.get? pl = some (W.listOf (pvs.set i.toNat (.int (ovs.length : Nat) t')).toArray n')) := by
  refine enter (K := hd.heap_1 w.params) (binds := [(Str.ofString "self", .ref x), (Str.ofString "label", .int i tl)]) [(pl, W.listOf pvs.toArray m)] X T hK ?_ (by k_is) (by k_is) (by k_room) (BindsTo.of_eq rfl) (locs rfl) ?_ rfl rfl rfl (by decide)
  · intro q hq; cases hq with
    | head => exact ⟨hpl, hf⟩
    | tail _ h => cases h
  intro g' L' h' Kg F' N' l1 X' T' S'
  k_lt l1
  have hxg : g'.get? x = some (instObj 117 dx) := Kg _ _ hx (nin1 (PySem.W.X.ne_objs _ _ _ _ hx hpl rfl))
  have hdg : g'.get? dx = some (dictOf (drE w t1 t2 t3 t4 t5 t6 pr o pl hs) nd) := Kg _ _ hdx (nin1 (PySem.W.X.ne_objs _ _ _ _ hdx hpl rfl))
  have hog : g'.get? o = some (W.listOf ovs.toArray n) := Kg _ _ ho (nin1 hne)
  show wpAny _ _ _ _ _ _
  k_fold
  w_strict (k_steps)
  show BodyEnd _ _ _ _ _
  refine ⟨_, _, rfl, Fr.keep (by assumption), rfl, m, _, getSet (News.get (by assumption) (by k_mem))⟩
end
theorem fresh_C6 : True ∧ True := by
  k_with_none
  (k_with "binaryOp Pow int int 1" => row_timed "fresh" (fail; (((with_reducible refine Mine.my_pow ?kb1 ?kb2 ?kb3 ?kb4 ?_); (case kb1 => decide); (case kb2 => decide); (case kb3 => first | decide | (with_reducible exact (Mine.pow3_bnd (PySem.W.fmod_lo _ (by decide)) (PySem.W.fmod_hi _ (by decide)) (by assumption) (by assumption)).1) | (with_reducible exact (Mine.pow5_bnd (by assumption) (by assumption)).1)); (case kb4 => first | decide | (with_reducible exact (Mine.pow3_bnd (PySem.W.fmod_lo _ (by decide)) (PySem.W.fmod_hi _ (by decide)) (by assumption) (by assumption)).2) | (with_reducible exact (Mine.pow5_bnd (by assumption) (by assumption)).2)); intro r' hr'))))
  (k_with "m:kroom" => row_timed "fresh" (fail; ((simp only [PyProof.Rows.depth_deeper, PySem.recursionLimit] at *; omega))))
  w_top off
  first | (walk1; done) | exact ⟨trivial, trivial⟩
section
inductive Op where
  | doo (i : Int)
  | stop (x : Str)
  | test (v : Value) (l : Int)
  | jump (l : Int)
inductive OpAt (P : Addr → Obj → Prop) : Value → Op → Prop where
  | doo {a : Addr} {i : Int} {n : Nat} {t1 t2 : Tok} (ha : P a (tupOf #[.str (Str.ofString "do") t1, .int i t2] n)) : OpAt P (.ref a) (.doo i)
  | stop {a : Addr} {x : Str} {n : Nat} {t1 t2 : Tok} (ha : P a (tupOf #[.str (Str.ofString "stop") t1, .str x t2] n)) : OpAt P (.ref a) (.stop x)
  | test {a : Addr} {v : Value} {l : Int} {n : Nat} {t1 t2 : Tok} (ha : P a (tupOf #[.str (Str.ofString "test") t1, v, .int l t2] n)) : OpAt P (.ref a) (.test v l)
  | jump {a : Addr} {l : Int} {n : Nat} {t1 t2 : Tok} (ha : P a (tupOf #[.str (Str.ofString "jump") t1, .int l t2] n)) : OpAt P (.ref a) (.jump l)
theorem OpAt.mono {P P' : Addr → Obj → Prop} {v : Value} {o : Op} (h : OpAt P v o) (k : ∀ a o, P a o → P' a o) : OpAt P' v o := by
  cases h with
  | doo ha => exact .doo (k _ _ ha)
  | stop ha => exact .stop (k _ _ ha)
  | test ha => exact .test (k _ _ ha)
  | jump ha => exact .jump (k _ _ ha)
theorem OpAt.list {P : Addr → Obj → Prop} {v : Value} {o : Op} (h : OpAt P v o) : ∃ R : List (Addr × Obj), (∀ q ∈ R, P q.1 q.2) ∧ OpAt (fun a o => (a, o) ∈ R) v o := by
  cases h with
  | doo ha => exact ⟨_, fun q hq => by rw [List.mem_singleton.mp hq]; exact ha, .doo (List.mem_singleton.mpr rfl)⟩
  | stop ha => exact ⟨_, fun q hq => by rw [List.mem_singleton.mp hq]; exact ha, .stop (List.mem_singleton.mpr rfl)⟩
  | test ha => exact ⟨_, fun q hq => by rw [List.mem_singleton.mp hq]; exact ha, .test (List.mem_singleton.mpr rfl)⟩
  | jump ha => exact ⟨_, fun q hq => by rw [List.mem_singleton.mp hq]; exact ha, .jump (List.mem_singleton.mpr rfl)⟩
inductive OpsAt (P : Addr → Obj → Prop) : List Value → List Op → Prop where
  | nil : OpsAt P [] []
  | cons {v : Value} {o : Op} {vs : List Value} {os : List Op} (h : OpAt P v o) (r : OpsAt P vs os) : OpsAt P (v :: vs) (o :: os)
theorem OpsAt.mono {P P' : Addr → Obj → Prop} {vs : List Value} {os : List Op} (h : OpsAt P vs os) (k : ∀ a o, P a o → P' a o) : OpsAt P' vs os := by
  induction h with
  | nil => exact .nil
  | cons h _ ih => exact .cons (h.mono k) ih
theorem OpsAt.app {P : Addr → Obj → Prop} {vs ws : List Value} {os ks : List Op} (h : OpsAt P vs os) (k : OpsAt P ws ks) : OpsAt P (vs ++ ws) (os ++ ks) := by
  induction h with
  | nil => exact k
  | cons h _ ih => exact .cons h ih
theorem OpsAt.length {P : Addr → Obj → Prop} {vs : List Value} {os : List Op} (h : OpsAt P vs os) : vs.length = os.length := by
  induction h with
  | nil => rfl
  | cons _ _ ih => simp only [List.length_cons, ih]
theorem OpsAt.list {P : Addr → Obj → Prop} {vs : List Value} {os : List Op} (h : OpsAt P vs os) : ∃ R : List (Addr × Obj), (∀ q ∈ R, P q.1 q.2) ∧ OpsAt (fun a o => (a, o) ∈ R) vs os := by
  induction h with
  | nil => exact ⟨[], (fun _ h => nomatch h), .nil⟩
  | cons h _ ih =>
    obtain ⟨R1, k1, h1⟩ := h.list
    obtain ⟨R2, k2, h2⟩ := ih
    refine ⟨R1 ++ R2, fun q hq => (List.mem_append.mp hq).elim (k1 q) (k2 q), .cons (h1.mono fun _ _ h => List.mem_append.mpr (.inl h)) (h2.mono fun _ _ h => List.mem_append.mpr (.inr h))⟩
def Cn.size : Cn → Nat
  | .leaf _ _ => 1
  | .neg c => c.size + 1
  | .con _ a b => a.size + b.size + 1
/-- the ops that put_condition lays and the places behind it: n ops stand, ps the places -/
def Cn.emit : Cn → Bool → Int → Nat → List Int → List Op × List Int
  | .leaf v _, true, l, n, ps => ([.test v (ps.length : Nat), .jump l], (ps ++ [-1]).set ps.length ((n + 2 : Nat) : Int))
  | .leaf v _, false, l, _, ps => ([.test v l], ps)
  | .neg c, w, l, n, ps => c.emit (!w) l n ps
  | .con o a b, w, l, n, ps =>
    if (o == w) = true then
      ((a.emit w l n ps).1 ++ (b.emit w l (n + (a.emit w l n ps).1.length) (a.emit w l n ps).2).1, (b.emit w l (n + (a.emit w l n ps).1.length) (a.emit w l n ps).2).2)
    else
      let r1 := a.emit (!w) (ps.length : Nat) n (ps ++ [-1])
      let r2 := b.emit w l (n + r1.1.length) r1.2
      (r1.1 ++ r2.1, r2.2.set ps.length ((n + r1.1.length + r2.1.length : Nat) : Int))
theorem emit_len : ∀ (c : Cn) (w : Bool) (l : Int) (n : Nat) (ps : List Int), (c.emit w l n ps).1.length ≤ 2 * c.size ∧ ps.length ≤ (c.emit w l n ps).2.length ∧ (c.emit w l n ps).2.length ≤ ps.length + c.size
  | .leaf v k, true, l, n, ps => by simp [Cn.emit, Cn.size]
  | .leaf v k, false, l, n, ps => by simp [Cn.emit, Cn.size]
  | .neg c, w, l, n, ps => by
    have := emit_len c (!w) l n ps
    simp only [Cn.emit, Cn.size]; omega
  | .con o a b, w, l, n, ps => by
    unfold Cn.emit
    split
    · have h1 := emit_len a w l n ps
      have h2 := emit_len b w l (n + (a.emit w l n ps).1.length) (a.emit w l n ps).2
      simp only [Cn.size, List.length_append]; omega
    · have h1 := emit_len a (!w) (ps.length : Nat) n (ps ++ [-1])
      have h2 := emit_len b w l (n + (a.emit (!w) (ps.length : Nat) n (ps ++ [-1])).1.length) (a.emit (!w) (ps.length : Nat) n (ps ++ [-1])).2
      simp only [Cn.size, List.length_append, List.length_set, List.length_cons, List.length_nil] at *; omega
end
theorem fresh_C7 : True ∧ True := by
  k_with_none
  (k_with "binaryOp Pow int int 1" => row_timed "fresh" (fail; (((with_reducible refine Mine.my_pow ?kb1 ?kb2 ?kb3 ?kb4 ?_); (case kb1 => decide); (case kb2 => decide); (case kb3 => first | decide | (with_reducible exact (Mine.pow3_bnd (PySem.W.fmod_lo _ (by decide)) (PySem.W.fmod_hi _ (by decide)) (by assumption) (by assumption)).1) | (with_reducible exact (Mine.pow5_bnd (by assumption) (by assumption)).1)); (case kb4 => first | decide | (with_reducible exact (Mine.pow3_bnd (PySem.W.fmod_lo _ (by decide)) (PySem.W.fmod_hi _ (by decide)) (by assumption) (by assumption)).2) | (with_reducible exact (Mine.pow5_bnd (by assumption) (by assumption)).2)); intro r' hr'))))
  (k_with "m:kroom" => row_timed "fresh" (fail; ((simp only [PyProof.Rows.depth_deeper, PySem.recursionLimit] at *; omega))))
  w_top off
  first | (walk1; done) | exact ⟨trivial, trivial⟩
section
section
variable {w : World} {p : Program} {loose : List Str} {mean : ExcName → Option Value} {mg mb : Str → Option Value} {A : Around} {s : Shared} {g : Heap} {L : Addr} {m : Str → Option Value} {Q : Value → Shared → Prop} {E : Value → Shared → Prop}
  {x dx o pl hs : Addr} {t1 t2 t3 t4 t5 t6 : Tok} {pr : Value} {nd n1 n2 : Nat} {ovs pvs : List Value} {rest : List (Addr × Obj)}
theorem fresh_use (X : (hd.heap_1 w.params).In g) (T : Top p loose mean mg mb g) (hh : A.handled = none) (hd : A.depth ≤ 900) (hu : A.units ≤ 5000)
    (hx : s.heap.get? x = some (instObj 117 dx)) (hdx : s.heap.get? dx = some (dictOf (drE w t1 t2 t3 t4 t5 t6 pr o pl hs) nd)) (F : Fr g L s.heap m) (N : News g L s.heap ((o, W.listOf ovs.toArray n1) :: (pl, W.listOf pvs.toArray n2) :: rest)) (hne : o ≠ pl) (hr : ∀ q ∈ rest, q.1 ≠ o ∧ q.1 ≠ pl) (hlen : pvs.length ≤ 1000)
    (h : ∀ t t' n' h' tk, Fr g L h' m → News g L h' ((o, W.listOf ovs.toArray n1) :: (pl, W.listOf (pvs ++ [Value.int (-1) t']).toArray n') :: rest) → Q (.int (pvs.length : Nat) t) { s with heap := h', toks := tk }) :
    wpAny (model PySem.Challenge.rw_pq0617_01.row.prog w) A (call (.ref 81) [.ref x]) Q E s := by
  have hN := N _ (.tail _ (.head _))
  refine use2 (d := 900) (u := 5000) (fresh_ok X T F.keep x dx o pl hs t1 t2 t3 t4 t5 t6 pr nd n2 pvs hx hdx hN.1 hN.2.2 hlen (Nat.le_refl _) (Nat.le_refl _)) hh hd hu F N (fun b hb => by rw [List.mem_singleton.mp hb]; exact ⟨_, .tail _ (.head _)⟩) ?_
  rintro v h' tk F' k1 k2 ⟨t, t', n', rfl, hg⟩
  exact h t t' n' h' tk F' (news_cons (k1 _ (.head _) fun hm => hne (List.mem_singleton.mp hm)) (news_cons (k2 _ hg (.inl (List.mem_singleton.mpr rfl))) (news_all fun q hq => k1 q (.tail _ (.tail _ hq)) fun hm => (hr q hq).2 (List.mem_singleton.mp hm))))
theorem put_use {v : Value} (X : (hd.heap_1 w.params).In g) (T : Top p loose mean mg mb g) (hh : A.handled = none) (hd : A.depth ≤ 900) (hu : A.units ≤ 5000)
    (hx : s.heap.get? x = some (instObj 117 dx)) (hdx : s.heap.get? dx = some (dictOf (drE w t1 t2 t3 t4 t5 t6 pr o pl hs) nd)) (F : Fr g L s.heap m) (N : News g L s.heap ((o, W.listOf ovs.toArray n1) :: (pl, W.listOf pvs.toArray n2) :: rest)) (hne : o ≠ pl) (hr : ∀ q ∈ rest, q.1 ≠ o ∧ q.1 ≠ pl) (hlen : ovs.length ≤ 1000)
    (h : ∀ n' h' tk, Fr g L h' m → News g L h' ((o, W.listOf (ovs ++ [v]).toArray n') :: (pl, W.listOf pvs.toArray n2) :: rest) → Q .none { s with heap := h', toks := tk }) :
    wpAny (model PySem.Challenge.rw_pq0617_01.row.prog w) A (call (.ref 95) [.ref x, v]) Q E s := by
  have hN := N _ (.head _)
  refine use2 (d := 900) (u := 5000) (put_ok X T F.keep x dx o pl hs t1 t2 t3 t4 t5 t6 pr v nd n1 ovs hx hdx hN.1 hN.2.2 hlen (Nat.le_refl _) (Nat.le_refl _)) hh hd hu F N (fun b hb => by rw [List.mem_singleton.mp hb]; exact ⟨_, .head _⟩) ?_
  rintro _ h' tk F' k1 k2 ⟨rfl, n', hg⟩
  exact h n' h' tk F' (news_cons (k2 _ hg (.inl (List.mem_singleton.mpr rfl))) (news_cons (k1 _ (.tail _ (.head _)) fun hm => hne (List.mem_singleton.mp hm).symm) (news_all fun q hq => k1 q (.tail _ (.tail _ hq)) fun hm => (hr q hq).1 (List.mem_singleton.mp hm))))
theorem here_use {i : Int} {tl : Tok} (X : (hd.heap_1 w.params).In g) (T : Top p loose mean mg mb g) (hh : A.handled = none) (hd : A.depth ≤ 900) (hu : A.units ≤ 5000)
    (hx : s.heap.get? x = some (instObj 117 dx)) (hdx : s.heap.get? dx = some (dictOf (drE w t1 t2 t3 t4 t5 t6 pr o pl hs) nd)) (F : Fr g L s.heap m) (N : News g L s.heap ((o, W.listOf ovs.toArray n1) :: (pl, W.listOf pvs.toArray n2) :: rest)) (hne : o ≠ pl) (hr : ∀ q ∈ rest, q.1 ≠ o ∧ q.1 ≠ pl) (hlo : ovs.length ≤ 1000) (hlen : pvs.length ≤ 1000)
    (h0 : 0 ≤ i) (h1 : i < pvs.length)
    (h : ∀ n' t' h' tk, Fr g L h' m → News g L h' ((o, W.listOf ovs.toArray n1) :: (pl, W.listOf (pvs.set i.toNat (.int (ovs.length : Nat) t')).toArray n') :: rest) → Q .none { s with heap := h', toks := tk }) :
    wpAny (model PySem.Challenge.rw_pq0617_01.row.prog w) A (call (.ref 88) [.ref x, .int i tl]) Q E s := by
  have hN := N _ (.tail _ (.head _))
  refine use2 (d := 900) (u := 5000) (here_ok X T F.keep x dx o pl hs t1 t2 t3 t4 t5 t6 tl pr nd n1 n2 ovs pvs i hx hdx (N _ (.head _)).1 hN.1 hne hN.2.2 hlo hlen h0 h1 (Nat.le_refl _) (Nat.le_refl _)) hh hd hu F N (fun b hb => by rw [List.mem_singleton.mp hb]; exact ⟨_, .tail _ (.head _)⟩) ?_
  rintro _ h' tk F' k1 k2 ⟨rfl, n', t', hg⟩
  exact h n' t' h' tk F' (news_cons (k1 _ (.head _) fun hm => hne (List.mem_singleton.mp hm)) (news_cons (k2 _ hg (.inl (List.mem_singleton.mpr rfl))) (news_all fun q hq => k1 q (.tail _ (.tail _ hq)) fun hm => (hr q hq).2 (List.mem_singleton.mp hm))))
end
def PutcOk (w : World) (c : Cn) : Prop :=
  ∀ {d u : Nat} {s : Shared} {hb : Heap} {p : Program} {loose : List Str} {mean : ExcName → Option Value} {mg mb : Str → Option Value}
    (_ : (hd.heap_1 w.params).In hb) (_ : Top p loose mean mg mb hb) (_ : hb.StaysIn s.heap)
    (x dx o pl hs : Addr) (t1 t2 t3 t4 t5 t6 : Tok) (pr : Value) (nd n1 n2 : Nat) (ovs pvs : List Value) (ps : List Int) (v : Value) (wn : Bool) (l : Int) (tl : Tok)
    (_ : s.heap.get? x = some (instObj 117 dx)) (_ : s.heap.get? dx = some (dictOf (drE w t1 t2 t3 t4 t5 t6 pr o pl hs) nd))
    (_ : s.heap.get? o = some (W.listOf ovs.toArray n1)) (_ : s.heap.get? pl = some (W.listOf pvs.toArray n2)) (_ : o ≠ pl) (_ : hb.get? o = none) (_ : hb.get? pl = none)
    (_ : CnAt (fun b ob => s.heap.get? b = some ob) v c) (_ : IntsAre pvs ps) (_ : ovs.length + 2 * c.size ≤ 900) (_ : pvs.length + c.size ≤ 900)
    (_ : d + c.deep + 30 ≤ 900) (_ : u + 10 * c.deep + 50 ≤ 5000),
    Fn w (AT d u) s 128 [.ref x, v, .bool wn, .int l tl] [o, pl] (fun h r => r = .none ∧ ∃ new pvs' n1' n2', h.get? o = some (W.listOf (ovs ++ new).toArray n1') ∧ h.get? pl = some (W.listOf pvs'.toArray n2') ∧
      OpsAt (fun b ob => h.get? b = some ob ∧ s.heap.get? b = none) new (c.emit wn l ovs.length ps).1 ∧ IntsAre pvs' (c.emit wn l ovs.length ps).2)
theorem putc_use {w : World} {c : Cn} (H : PutcOk w c) {p : Program} {loose : List Str} {mean : ExcName → Option Value} {mg mb : Str → Option Value} {A : Around} {s : Shared} {g : Heap} {L : Addr} {m : Str → Option Value} {Q : Value → Shared → Prop} {E : Value → Shared → Prop}
    {x dx o pl hs : Addr} {t1 t2 t3 t4 t5 t6 : Tok} {pr : Value} {nd n1 n2 : Nat} {ovs pvs : List Value} {ps : List Int} {rest : List (Addr × Obj)} {v : Value} {wn : Bool} {l : Int} {tl : Tok}
    (X : (hd.heap_1 w.params).In g) (T : Top p loose mean mg mb g) (hh : A.handled = none) (hd : A.depth + c.deep + 30 ≤ 900) (hu : A.units + 10 * c.deep + 50 ≤ 5000)
    (hx : s.heap.get? x = some (instObj 117 dx)) (hdx : s.heap.get? dx = some (dictOf (drE w t1 t2 t3 t4 t5 t6 pr o pl hs) nd)) (F : Fr g L s.heap m) (N : News g L s.heap ((o, W.listOf ovs.toArray n1) :: (pl, W.listOf pvs.toArray n2) :: rest)) (hne : o ≠ pl) (hr : ∀ q ∈ rest, q.1 ≠ o ∧ q.1 ≠ pl)
    (hc : CnAt (fun b ob => s.heap.get? b = some ob) v c) (hps : IntsAre pvs ps) (hlo : ovs.length + 2 * c.size ≤ 900) (hlp : pvs.length + c.size ≤ 900)
    (h : ∀ new pvs' n1' n2' R h' tk, Fr g L h' m → News g L h' ((o, W.listOf (ovs ++ new).toArray n1') :: (pl, W.listOf pvs'.toArray n2') :: (R ++ rest)) → (∀ q ∈ R, q.1 ≠ o ∧ q.1 ≠ pl) →
      OpsAt (fun b ob => (b, ob) ∈ R) new (c.emit wn l ovs.length ps).1 → IntsAre pvs' (c.emit wn l ovs.length ps).2 →
      new.length ≤ 2 * c.size ∧ pvs.length ≤ pvs'.length ∧ pvs'.length ≤ pvs.length + c.size → Q .none { s with heap := h', toks := tk }) :
    wpAny (model PySem.Challenge.rw_pq0617_01.row.prog w) A (call (.ref 128) [.ref x, v, .bool wn, .int l tl]) Q E s := by
  have hN1 := N _ (.head _)
  have hN2 := N _ (.tail _ (.head _))
  refine use2 (d := A.depth) (u := A.units) (H X T F.keep x dx o pl hs t1 t2 t3 t4 t5 t6 pr nd n1 n2 ovs pvs ps v wn l tl hx hdx hN1.1 hN2.1 hne hN1.2.2 hN2.2.2 hc hps hlo hlp hd hu) hh (Nat.le_refl _) (Nat.le_refl _) F N ?_ ?_
  · intro b hb
    rcases List.mem_cons.mp hb with rfl | hb
    · exact ⟨_, .head _⟩
    · rw [List.mem_singleton.mp hb]; exact ⟨_, .tail _ (.head _)⟩
  · rintro _ h' tk F' k1 k2 ⟨rfl, new, pvs', n1', n2', g1, g2, hops, hps'⟩
    obtain ⟨R, hR, hRo⟩ := hops.list
    refine h new pvs' n1' n2' R h' tk F' (news_cons (k2 _ g1 (.inl (.head _))) (news_cons (k2 _ g2 (.inl (.tail _ (.head _)))) (news_app (news_all fun q hq => k2 q (hR q hq).1 (.inr (hR q hq).2)) (news_all fun q hq => k1 q (.tail _ (.tail _ hq)) fun hm => ?_)))) (fun q hq => ⟨fun e => ?_, fun e => ?_⟩) hRo hps' ?_
    · rcases List.mem_cons.mp hm with e | e
      · exact (hr q hq).1 e
      · exact (hr q hq).2 (List.mem_singleton.mp e)
    · have := (hR q hq).2
      rw [e, hN1.1] at this; cases this
    · have := (hR q hq).2
      rw [e, hN2.1] at this; cases this
    · have e1 := hRo.length
      have e2 := hps.length
      have e3 := hps'.length
      have e4 := emit_len c wn l ovs.length ps
      omega
/-- what put_condition's contract says -/
abbrev PutPost (s : Shared) (o pl : Addr) (ovs : List Value) (E : List Op × List Int) (h : Heap) (r : Value) : Prop :=
  r = .none ∧ ∃ new pvs' n1' n2', h.get? o = some (W.listOf (ovs ++ new).toArray n1') ∧ h.get? pl = some (W.listOf pvs'.toArray n2') ∧
      OpsAt (fun b ob => h.get? b = some ob ∧ s.heap.get? b = none) new E.1 ∧ IntsAre pvs' E.2
theorem nin_two {b o pl : Addr} {x y : Obj} (h1 : b ≠ o) (h2 : b ≠ pl) : b ∉ List.map Prod.fst [(o, x), (pl, y)] := by
  intro hm
  simp only [List.map_cons, List.map_nil, List.mem_cons, List.mem_nil_iff, or_false] at hm
  exact hm.elim h1 h2
theorem ints_set {vs : List Value} {ns : List Int} {k : Int} {t : Tok} (h : IntsAre vs ns) : ∀ i, IntsAre (vs.set i (.int k t)) (ns.set i k) := by
  induction h with
  | nil => intro i; exact .nil
  | cons n u r ih => intro i; cases i with
    | zero => exact .cons _ _ r
    | succ i => exact .cons n u (ih i)
theorem ints_snoc {vs : List Value} {ns : List Int} {k : Int} {t : Tok} (h : IntsAre vs ns) : IntsAre (vs ++ [.int k t]) (ns ++ [k]) := by
  induction h with
  | nil => exact .cons _ _ .nil
  | cons n u _ ih => exact .cons n u ih
section
variable {s : Shared} {g h : Heap} {L o pl : Addr} {m : Str → Option Value} {x y : Obj} {ovs pvs : List Value} {ps : List Int} {k1 k2 tk : Nat} {l : Int}
theorem end_of {new pvs' : List Value} {E : List Op × List Int} {R : List (Addr × Obj)} (Kg : ∀ a ob, s.heap.get? a = some ob → a ∉ List.map Prod.fst [(o, x), (pl, y)] → g.get? a = some ob) (F : Fr g L h m)
    (N : News g L h ((o, W.listOf (ovs ++ new).toArray k1) :: (pl, W.listOf pvs'.toArray k2) :: R)) (hoff : ∀ q ∈ R, q.1 ≠ o ∧ q.1 ≠ pl) (hops : OpsAt (fun b ob => (b, ob) ∈ R) new E.1) (hps : IntsAre pvs' E.2) :
    BodyEnd g s (PutPost s o pl ovs E) .none { s with heap := h, toks := tk } := by
  refine ⟨_, _, rfl, F.keep, rfl, new, pvs', k1, k2, N.get (.head _), N.get (.tail _ (.head _)), hops.mono fun b ob hb => ?_, hps⟩
  have hb' : (b, ob) ∈ (o, W.listOf (ovs ++ new).toArray k1) :: (pl, W.listOf pvs'.toArray k2) :: R := .tail _ (.tail _ hb)
  exact ⟨N.get hb', fresh_in Kg N hb' (nin_two (hoff _ hb).1 (hoff _ hb).2)⟩
theorem end_neg {c : Cn} {w : Bool} {new pvs' : List Value} {R : List (Addr × Obj)} (Kg : ∀ a ob, s.heap.get? a = some ob → a ∉ List.map Prod.fst [(o, x), (pl, y)] → g.get? a = some ob) (F : Fr g L h m)
    (N : News g L h ((o, W.listOf (ovs ++ new).toArray k1) :: (pl, W.listOf pvs'.toArray k2) :: (R ++ []))) (hoff : ∀ q ∈ R, q.1 ≠ o ∧ q.1 ≠ pl) (hops : OpsAt (fun b ob => (b, ob) ∈ R) new (c.emit (!w) l ovs.length ps).1) (hps : IntsAre pvs' (c.emit (!w) l ovs.length ps).2) :
    BodyEnd g s (PutPost s o pl ovs ((Cn.neg c).emit w l ovs.length ps)) .none { s with heap := h, toks := tk } := by
  rw [List.append_nil] at N
  exact end_of Kg F N hoff hops hps
theorem emit_same {ob w : Bool} (hw : (ob == w) = true) (c1 c2 : Cn) (n : Nat) : (Cn.con ob c1 c2).emit w l n ps =
    ((c1.emit w l n ps).1 ++ (c2.emit w l (n + (c1.emit w l n ps).1.length) (c1.emit w l n ps).2).1, (c2.emit w l (n + (c1.emit w l n ps).1.length) (c1.emit w l n ps).2).2) := by
  rw [Cn.emit, if_pos hw]
theorem emit_else {ob w : Bool} (hw : (ob == w) = false) (c1 c2 : Cn) (n : Nat) : (Cn.con ob c1 c2).emit w l n ps =
    ((c1.emit (!w) (ps.length : Nat) n (ps ++ [-1])).1 ++ (c2.emit w l (n + (c1.emit (!w) (ps.length : Nat) n (ps ++ [-1])).1.length) (c1.emit (!w) (ps.length : Nat) n (ps ++ [-1])).2).1,
      (c2.emit w l (n + (c1.emit (!w) (ps.length : Nat) n (ps ++ [-1])).1.length) (c1.emit (!w) (ps.length : Nat) n (ps ++ [-1])).2).2.set ps.length
        ((n + (c1.emit (!w) (ps.length : Nat) n (ps ++ [-1])).1.length + (c2.emit w l (n + (c1.emit (!w) (ps.length : Nat) n (ps ++ [-1])).1.length) (c1.emit (!w) (ps.length : Nat) n (ps ++ [-1])).2).1.length : Nat) : Int)) := by
  rw [Cn.emit, if_neg (by rw [hw]; exact Bool.false_ne_true)]
theorem end_same {ob w : Bool} (hw : (ob == w) = true) {c1 c2 : Cn} {new1 new2 pvs' : List Value} {R1 R2 : List (Addr × Obj)} (Kg : ∀ a ob, s.heap.get? a = some ob → a ∉ List.map Prod.fst [(o, x), (pl, y)] → g.get? a = some ob) (F : Fr g L h m)
    (N : News g L h ((o, W.listOf ((ovs ++ new1) ++ new2).toArray k1) :: (pl, W.listOf pvs'.toArray k2) :: (R2 ++ (R1 ++ [])))) (ho1 : ∀ q ∈ R1, q.1 ≠ o ∧ q.1 ≠ pl) (ho2 : ∀ q ∈ R2, q.1 ≠ o ∧ q.1 ≠ pl)
    (hp1 : OpsAt (fun b ob => (b, ob) ∈ R1) new1 (c1.emit w l ovs.length ps).1) (hp2 : OpsAt (fun b ob => (b, ob) ∈ R2) new2 (c2.emit w l (ovs ++ new1).length (c1.emit w l ovs.length ps).2).1) (hps : IntsAre pvs' (c2.emit w l (ovs ++ new1).length (c1.emit w l ovs.length ps).2).2) :
    BodyEnd g s (PutPost s o pl ovs ((Cn.con ob c1 c2).emit w l ovs.length ps)) .none { s with heap := h, toks := tk } := by
  rw [List.append_assoc, List.append_nil] at N
  rw [List.length_append, hp1.length] at hp2 hps
  rw [emit_same hw]
  exact end_of Kg F N (fun q hq => (List.mem_append.mp hq).elim (ho2 q) (ho1 q)) ((hp1.mono fun _ _ h => List.mem_append.mpr (.inr h)).app (hp2.mono fun _ _ h => List.mem_append.mpr (.inl h))) hps
theorem end_else {ob w : Bool} (hw : (ob == w) = false) {c1 c2 : Cn} {new1 new2 pvs' : List Value} {t' : Tok} {R1 R2 : List (Addr × Obj)} (Kg : ∀ a ob, s.heap.get? a = some ob → a ∉ List.map Prod.fst [(o, x), (pl, y)] → g.get? a = some ob) (hl : IntsAre pvs ps) (F : Fr g L h m)
    (N : News g L h ((o, W.listOf ((ovs ++ new1) ++ new2).toArray k1) :: (pl, W.listOf (pvs'.set ((pvs.length : Nat) : Int).toNat (.int ((ovs ++ new1 ++ new2).length : Nat) t')).toArray k2) :: (R2 ++ (R1 ++ [])))) (ho1 : ∀ q ∈ R1, q.1 ≠ o ∧ q.1 ≠ pl) (ho2 : ∀ q ∈ R2, q.1 ≠ o ∧ q.1 ≠ pl)
    (hp1 : OpsAt (fun b ob => (b, ob) ∈ R1) new1 (c1.emit (!w) (pvs.length : Nat) ovs.length (ps ++ [-1])).1) (hp2 : OpsAt (fun b ob => (b, ob) ∈ R2) new2 (c2.emit w l (ovs ++ new1).length (c1.emit (!w) (pvs.length : Nat) ovs.length (ps ++ [-1])).2).1)
    (hps : IntsAre pvs' (c2.emit w l (ovs ++ new1).length (c1.emit (!w) (pvs.length : Nat) ovs.length (ps ++ [-1])).2).2) :
    BodyEnd g s (PutPost s o pl ovs ((Cn.con ob c1 c2).emit w l ovs.length ps)) .none { s with heap := h, toks := tk } := by
  have e0 := hl.length
  rw [e0] at N hp1 hp2 hps
  rw [List.length_append, hp1.length] at hp2 hps
  rw [List.length_append, List.length_append, hp1.length, hp2.length, Int.toNat_natCast, List.append_assoc, List.append_nil] at N
  rw [emit_else hw]
  exact end_of Kg F N (fun q hq => (List.mem_append.mp hq).elim (ho2 q) (ho1 q)) ((hp1.mono fun _ _ h => List.mem_append.mpr (.inr h)).app (hp2.mono fun _ _ h => List.mem_append.mpr (.inl h))) (ints_set hps _)
theorem end_leaf_f {v : Value} {k : Nat} {D : Addr} {t1 t2 : Tok} {n : Nat} (Kg : ∀ a ob, s.heap.get? a = some ob → a ∉ List.map Prod.fst [(o, x), (pl, y)] → g.get? a = some ob) (hl : IntsAre pvs ps) (F : Fr g L h m)
    (N : News g L h [(o, W.listOf (ovs ++ [Value.ref D]).toArray k1), (pl, W.listOf pvs.toArray k2), (D, tupOf #[.str (Str.ofString "test") t1, v, .int l t2] n)]) (h1 : D ≠ o) (h2 : D ≠ pl) :
    BodyEnd g s (PutPost s o pl ovs ((Cn.leaf v k).emit false l ovs.length ps)) .none { s with heap := h, toks := tk } :=
  end_of Kg F N (fun q hq => by rw [List.mem_singleton.mp hq]; exact ⟨h1, h2⟩) (.cons (.test (.head _)) .nil) hl
theorem end_leaf_t {v : Value} {k : Nat} {D1 D2 : Addr} {t1 t2 t3 t4 t5 t6 : Tok} {n3 n4 : Nat} (Kg : ∀ a ob, s.heap.get? a = some ob → a ∉ List.map Prod.fst [(o, x), (pl, y)] → g.get? a = some ob) (hl : IntsAre pvs ps) (F : Fr g L h m)
    (N : News g L h [(o, W.listOf (ovs ++ [Value.ref D1] ++ [Value.ref D2]).toArray k1), (pl, W.listOf ((pvs ++ [Value.int (-1) t5]).set ((pvs.length : Nat) : Int).toNat (.int ((ovs ++ [Value.ref D1] ++ [Value.ref D2]).length : Nat) t6)).toArray k2), (D2, tupOf #[.str (Str.ofString "jump") t3, .int l t4] n4), (D1, tupOf #[.str (Str.ofString "test") t1, v, .int (pvs.length : Nat) t2] n3)])
    (h1 : D1 ≠ o) (h2 : D1 ≠ pl) (h3 : D2 ≠ o) (h4 : D2 ≠ pl) :
    BodyEnd g s (PutPost s o pl ovs ((Cn.leaf v k).emit true l ovs.length ps)) .none { s with heap := h, toks := tk } := by
  have e0 := hl.length
  rw [List.append_assoc, e0, Int.toNat_natCast] at N
  have e1 : (ovs ++ ([Value.ref D1] ++ [Value.ref D2])).length = ovs.length + 2 := by simp
  rw [e1] at N
  exact end_of Kg F N (fun q hq => by
    rcases List.mem_cons.mp hq with rfl | hq
    · exact ⟨h3, h4⟩
    · rw [List.mem_singleton.mp hq]; exact ⟨h1, h2⟩) (.cons (.test (.tail _ (.head _))) (.cons (.jump (.head _)) .nil)) (ints_set (ints_snoc hl) _)
end
end
theorem fresh_C8 : True ∧ True := by
  k_with_none
  (k_with "binaryOp Pow int int 1" => row_timed "fresh" (fail; (((with_reducible refine Mine.my_pow ?kb1 ?kb2 ?kb3 ?kb4 ?_); (case kb1 => decide); (case kb2 => decide); (case kb3 => first | decide | (with_reducible exact (Mine.pow3_bnd (PySem.W.fmod_lo _ (by decide)) (PySem.W.fmod_hi _ (by decide)) (by assumption) (by assumption)).1) | (with_reducible exact (Mine.pow5_bnd (by assumption) (by assumption)).1)); (case kb4 => first | decide | (with_reducible exact (Mine.pow3_bnd (PySem.W.fmod_lo _ (by decide)) (PySem.W.fmod_hi _ (by decide)) (by assumption) (by assumption)).2) | (with_reducible exact (Mine.pow5_bnd (by assumption) (by assumption)).2)); intro r' hr'))))
  (k_with "m:kroom" => row_timed "fresh" (fail; ((simp only [PyProof.Rows.depth_deeper, PySem.recursionLimit] at *; omega))))
  w_top off
  first | (walk1; done) | exact ⟨trivial, trivial⟩
section
theorem word_5 : True := by
  (k_with "m:inst" => row_timed "fresh" (fail; (exact inst_base (by k_asm) (by k_asm) (by k_asm))))
  trivial
theorem tup_base {g h : Heap} {L a : Addr} {m : Str → Option Value} {vs : Array Value} {n : Nat} (F : Fr g L h m) (h1 : g.get? a = some (tupOf vs n)) : IsTup h a vs := ⟨_, F.keep _ _ h1, rfl, _, rfl⟩
theorem word_6 : True := by
  (k_with "subscriptTail 1" => row_timed "fresh" (fail; (((with_reducible show wpAny _ _ (subscriptTail _ _ (Value.ref _) (Value.int _ _)) _ _ _); k_dflt (refine' item_tupleT ?t ?a ?b ?c ?d ?_; (case t => exact tup_base (by k_asm) (by k_asm)); (case a => decide); (case b => decide); (case c => rfl); (case d => rfl); k_whole)))))
  trivial
def strIs (k : Str) : Value → Bool
  | .str y _ => y == k
  | _ => false
theorem in_strs {prog : Program} {w : World} {A : Around} {E : Value → Shared → Prop} {s : Shared} {l : Addr} {vs : List Value} {k : Str} {t : Tok} {r : Bool} {Q : Value → Shared → Prop} (hl : s.heap.IsTuple l vs.toArray) (hv : ∀ v ∈ vs, ∃ y u, v = .str y u) (hr : vs.any (strIs k) = r)
    (h : Q (.bool r) s) : wpAny (model prog w) A (compareOp .In (.str k t) (.ref l)) Q E s := by
  refine PySem.SeqAt.in_tupleAt (strIs k) hl (fun y hy => ?_) ?_
  · obtain ⟨z, u, rfl⟩ := hv y (by simpa using hy)
    exact PySem.SeqAt.EqAt.str_str z u k t
  · rw [← Array.any_toList, show vs.toArray.toList = vs from rfl, hr]; exact h
theorem strs_nil : ∀ v ∈ ([] : List Value), ∃ y u, v = .str y u := fun _ h => nomatch h
theorem strs_cons {y : Str} {u : Tok} {l : List Value} (h : ∀ v ∈ l, ∃ y u, v = .str y u) : ∀ v ∈ (.str y u :: l : List Value), ∃ y u, v = .str y u := fun v hv => by
  rcases List.mem_cons.mp hv with rfl | hv
  · exact ⟨_, _, rfl⟩
  · exact h v hv
theorem tup_K {K : Frag} {g h : Heap} {L a : Addr} {m : Str → Option Value} {vs : Array Value} {n : Nat} (F : Fr g L h m) (X : K.In g) (e : K.lookup a = some (tupOf vs n)) : h.IsTuple a vs := ⟨_, F.keep _ _ (X _ _ e), rfl, _, rfl⟩
theorem in_join {w : World} {A : Around} {E : Value → Shared → Prop} {s : Shared} {g : Heap} {L : Addr} {m : Str → Option Value} {k : Str} {t : Tok} {Q : Value → Shared → Prop} (F : Fr g L s.heap m) (X : (hd.heap_1 w.params).In g) (r : Bool) (hr : (Str.ofString "not" == k || (Str.ofString "and" == k || (Str.ofString "or" == k || false))) = r)
    (h : Q (.bool r) s) : wpAny (model PySem.Challenge.rw_pq0617_01.row.prog w) A (compareOp .In (.str k t) (.ref 22)) Q E s :=
  in_strs (vs := [.str (Str.ofString "not") 196, .str (Str.ofString "and") 197, .str (Str.ofString "or") 198]) (tup_K (n := 0) F X (by k_is)) (strs_cons (strs_cons (strs_cons strs_nil))) hr h
theorem word_7 : True := by
  (k_with "compareOp In str ref" => row_timed "fresh" (fail; (((with_reducible show wpAny _ _ (compareOp CmpOp.In (Value.str _ _) (Value.ref 22)) _ _ _); k_dflt (first
  | refine in_join (by k_asm) (by k_asm) true (by decide +kernel) ?_
  | refine in_join (by k_asm) (by k_asm) false (by decide +kernel) ?_)))))
  trivial
theorem AT_depth (d u : Nat) : (AT d u).depth = d := rfl
theorem AT_units (d u : Nat) : (AT d u).units = u := rfl
theorem news_rot {h₀ h : Heap} {L : Addr} {q a b : Addr × Obj} {r : List (Addr × Obj)} (N : News h₀ L h (q :: a :: b :: r)) : News h₀ L h (a :: b :: q :: r) := news_sub N fun x hx => by
  simp only [List.mem_cons] at hx ⊢
  rcases hx with h | h | h | h <;> simp [h]
theorem off_cons {a o p : Addr} {ob : Obj} {r : List (Addr × Obj)} (h1 : a ≠ o) (h2 : a ≠ p) (h : ∀ q ∈ r, q.1 ≠ o ∧ q.1 ≠ p) : ∀ q ∈ (a, ob) :: r, q.1 ≠ o ∧ q.1 ≠ p := fun q hq => by
  rcases List.mem_cons.mp hq with rfl | hq
  · exact ⟨h1, h2⟩
  · exact h q hq
theorem off_app {o p : Addr} {k r : List (Addr × Obj)} (h1 : ∀ q ∈ k, q.1 ≠ o ∧ q.1 ≠ p) (h : ∀ q ∈ r, q.1 ≠ o ∧ q.1 ≠ p) : ∀ q ∈ k ++ r, q.1 ≠ o ∧ q.1 ≠ p := fun q hq => (List.mem_append.mp hq).elim (h1 q) (h q)
theorem off_nil {o p : Addr} : ∀ q ∈ ([] : List (Addr × Obj)), q.1 ≠ o ∧ q.1 ≠ p := fun _ h => nomatch h
theorem word_8 : True := by
  (k_with "m:room" => row_timed "fresh" (fail; (((try simp only [depth_deeper, units_deeper, AT_depth, AT_units]); omega))))
  (k_with "m:len" => row_timed "fresh" (fail; (((try simp only [List.length_append, List.length_cons, List.length_nil, List.length_set]); omega))))
  (k_with "m:off" => row_timed "fresh" (fail; (first | assumption | exact off_nil | (refine off_app ?_ ?_ <;> k_extra "m:off") | (refine off_cons (by k_ne) (by k_ne) ?_; k_extra "m:off"))))
  (k_with "m:news" => row_timed "fresh" (fail; (first | exact news_rot (by k_asm) | k_asm)))
  (k_with "call ref 1" => row_timed "fresh" (fail; (((show wpAny _ _ (call (Value.ref 81) [Value.ref _]) _ _ _); refine fresh_use (by k_asm) (by k_asm) rfl (by k_extra "m:room") (by k_extra "m:room") (Fr.keep (by k_asm) _ _ (by k_asm)) (Fr.keep (by k_asm) _ _ (by k_asm)) (by k_asm) (by k_asm) (by k_asm) (by k_extra "m:off") (by k_extra "m:len") ?_; intro t t' n' h' tk' F' N'; (try k_sweep); (try dsimp only)))))
  (k_with "call ref 2" => row_timed "fresh" (fail; (((show wpAny _ _ (call (Value.ref 95) [Value.ref _, _]) _ _ _); refine put_use (by k_asm) (by k_asm) rfl (by k_extra "m:room") (by k_extra "m:room") (Fr.keep (by k_asm) _ _ (by k_asm)) (Fr.keep (by k_asm) _ _ (by k_asm)) (by k_asm) (by k_extra "m:news") (by k_asm) (by k_extra "m:off") (by k_extra "m:len") ?_; intro n' h' tk' F' N'; (try k_sweep); (try dsimp only)))))
  (k_with "call ref 3" => row_timed "fresh" (fail; (((show wpAny _ _ (call (Value.ref 88) [Value.ref _, Value.int _ _]) _ _ _); refine here_use (by k_asm) (by k_asm) rfl (by k_extra "m:room") (by k_extra "m:room") (Fr.keep (by k_asm) _ _ (by k_asm)) (Fr.keep (by k_asm) _ _ (by k_asm)) (by k_asm) (by k_asm) (by k_asm) (by k_extra "m:off") (by k_extra "m:len") (by k_extra "m:len") (by k_extra "m:len") (by k_extra "m:len") ?_; intro n' t' h' tk' F' N'; (try k_sweep); (try dsimp only)))))
  (k_with "m:ints" => row_timed "fresh" (fail; (first | assumption | exact ints_snoc (by assumption))))
  (k_with "call ref 4" => row_timed "fresh" (fail; (((show wpAny _ _ (call (Value.ref 128) [Value.ref _, _, Value.bool _, Value.int _ _]) _ _ _); refine' putc_use ?H ?X ?T ?hh ?hd ?hu ?hx ?hdx ?F ?N ?hne ?hr ?hc ?hps ?hlo ?hlp ?_; (case F => k_asm); (case hc => exact CnAt.mono (by assumption) (Fr.keep (by k_asm))); (case H => assumption); (case X => k_asm); (case T => k_asm); (case hh => rfl); (case hd => k_extra "m:room"); (case hu => k_extra "m:room"); (case hx => exact Fr.keep (by k_asm) _ _ (by k_asm)); (case hdx => exact Fr.keep (by k_asm) _ _ (by k_asm)); (case N => k_asm); (case hne => k_asm); (case hr => k_extra "m:off"); (case hps => k_extra "m:ints"); (case hlo => k_extra "m:len"); (case hlp => k_extra "m:len"); intro new pvs' n1' n2' R h' tk' F' N' hR hops hps' hlen; (try simp only [List.length_append, List.length_cons, List.length_nil] at hlen); (try k_sweep); (try dsimp only)))))
  trivial
theorem CnAt.monoT {P P' : Addr → Obj → Prop} {v : Value} {c : Cn} (h : CnAt P v c) (k : ∀ a vs n, P a (tupOf vs n) → P' a (tupOf vs n)) : CnAt P' v c := by
  induction h with
  | leaf hk hx ha hb he1 he2 => exact .leaf hk hx (k _ _ _ ha) (k _ _ _ hb) (k _ _ _ he1) (k _ _ _ he2)
  | neg ha _ ih => exact .neg (k _ _ _ ha) ih
  | con ha _ _ i1 i2 => exact .con (k _ _ _ ha) i1 i2
theorem Cn.size_pos : ∀ c : Cn, 0 < c.size
  | .leaf _ _ => Nat.one_pos
  | .neg _ => Nat.succ_pos _
  | .con _ _ _ => Nat.succ_pos _
set_option maxHeartbeats 4000000 in
theorem putc_step (w : World) (c : Cn) (ih : ∀ c', c'.size < c.size → PutcOk w c') : PutcOk w c := by
  intro d u s hb p loose mean mg mb X T hK x dx o pl hs t1 t2 t3 t4 t5 t6 pr nd n1 n2 ovs pvs ps v wn l tl hx hdx ho hpl hne hfo hfp hc hps hlo hlp hD hU
  refine enter (K := hd.heap_1 w.params) (binds := [(Str.ofString "draft", .ref x), (Str.ofString "cond", v), (Str.ofString "is_wanted", .bool wn), (Str.ofString "label", .int l tl)]) [(o, W.listOf ovs.toArray n1), (pl, W.listOf pvs.toArray n2)] X T hK ?_ (by k_is) (by k_is) (by simp only [recursionLimit]; omega) (BindsTo.of_eq rfl) (locs rfl) ?_ rfl rfl rfl (by decide)
  · intro q hq
    rcases List.mem_cons.mp hq with rfl | hq
    · exact ⟨ho, hfo⟩
    · rw [List.mem_singleton.mp hq]; exact ⟨hpl, hfp⟩
  intro g' L' h' Kg F' N' l1 X' T' S'
  k_lt l1
  have nin2 : ∀ {b : Addr}, b ≠ o → b ≠ pl → b ∉ List.map Prod.fst [(o, W.listOf ovs.toArray n1), (pl, W.listOf pvs.toArray n2)] := by
    intro b h1 h2 hm
    simp only [List.map_cons, List.map_nil, List.mem_cons, List.mem_nil_iff, or_false] at hm
    exact hm.elim h1 h2
  have hxg : g'.get? x = some (instObj 117 dx) := Kg _ _ hx (nin2 (PySem.W.X.ne_objs _ _ _ _ hx ho rfl) (PySem.W.X.ne_objs _ _ _ _ hx hpl rfl))
  have hdg : g'.get? dx = some (dictOf (drE w t1 t2 t3 t4 t5 t6 pr o pl hs) nd) := Kg _ _ hdx (nin2 (PySem.W.X.ne_objs _ _ _ _ hdx ho rfl) (PySem.W.X.ne_objs _ _ _ _ hdx hpl rfl))
  have tup : ∀ {b : Addr} {vs : Array Value} {n : Nat}, s.heap.get? b = some (tupOf vs n) → g'.get? b = some (tupOf vs n) := fun e => Kg _ _ e (nin2 (PySem.W.X.ne_objs _ _ _ _ e ho rfl) (PySem.W.X.ne_objs _ _ _ _ e hpl rfl))
  clear X T
  cases hc with
  | @neg a v c n t ha hc =>
    have hag := tup ha
    have hc' : CnAt (fun b ob => g'.get? b = some ob) v c := hc.monoT fun a vs n e => tup e
    have H1 : PutcOk w c := ih c (by simp only [Cn.size]; omega)
    clear hc ih
    simp only [Cn.size, Cn.deep] at hlo hlp hD hU
    show wpAny _ _ _ _ _ _
    k_fold
    w_strict (k_steps)
    show BodyEnd _ _ _ _ _
    exact end_neg Kg (by assumption) (by assumption) (by assumption) (by assumption) (by assumption)
  | @con a v1 v2 c1 c2 ob n t ha h1 h2 =>
    have hag := tup ha
    have h1' : CnAt (fun b ob => g'.get? b = some ob) v1 c1 := h1.monoT fun a vs n e => tup e
    have h2' : CnAt (fun b ob => g'.get? b = some ob) v2 c2 := h2.monoT fun a vs n e => tup e
    have H1 : PutcOk w c1 := ih c1 (by simp only [Cn.size]; omega)
    have H2 : PutcOk w c2 := ih c2 (by simp only [Cn.size]; omega)
    clear h1 h2 ih
    simp only [Cn.size, Cn.deep] at hlo hlp hD hU
    cases ob <;> cases wn
    all_goals simp only [if_true, if_false, Bool.false_eq_true] at ha hag
    all_goals (show wpAny _ _ _ _ _ _; k_fold)
    all_goals w_strict (k_steps)
    all_goals (show BodyEnd _ _ _ _ _)
    · exact end_same rfl Kg (by assumption) (by assumption) (by assumption) (by assumption) (by assumption) (by assumption) (by assumption)
    · exact end_else rfl Kg hps (by assumption) (by assumption) (by assumption) (by assumption) (by assumption) (by assumption) (by assumption)
    · exact end_else rfl Kg hps (by assumption) (by assumption) (by assumption) (by assumption) (by assumption) (by assumption) (by assumption)
    · exact end_same rfl Kg (by assumption) (by assumption) (by assumption) (by assumption) (by assumption) (by assumption) (by assumption)
  | leaf hk hx ha hb he1 he2 =>
    have hag := tup ha
    simp only [Cn.size, Cn.deep] at hlo hlp hD hU
    cases wn
    all_goals (show wpAny _ _ _ _ _ _; k_fold)
    all_goals w_strict (k_steps)
    all_goals (show BodyEnd _ _ _ _ _)
    · exact end_leaf_f Kg hps (by assumption) (by assumption) (by k_ne) (by k_ne)
    · exact end_leaf_t Kg hps (by assumption) (by assumption) (by k_ne) (by k_ne) (by k_ne) (by k_ne)
theorem putc_ok (w : World) : ∀ c, PutcOk w c := by
  have all : ∀ n, ∀ c : Cn, c.size < n → PutcOk w c := by
    intro n
    induction n with
    | zero => intro c h; exact absurd h (Nat.not_lt_zero _)
    | succ n ih => exact fun c h => putc_step w c fun c' h' => ih c' (Nat.lt_of_lt_of_le h' (Nat.le_of_lt_succ h))
  exact fun c => all _ c (Nat.lt_succ_self _)
end
theorem fresh_C9 : True ∧ True := by
  k_with_none
  (k_with "binaryOp Pow int int 1" => row_timed "fresh" (fail; (((with_reducible refine Mine.my_pow ?kb1 ?kb2 ?kb3 ?kb4 ?_); (case kb1 => decide); (case kb2 => decide); (case kb3 => first | decide | (with_reducible exact (Mine.pow3_bnd (PySem.W.fmod_lo _ (by decide)) (PySem.W.fmod_hi _ (by decide)) (by assumption) (by assumption)).1) | (with_reducible exact (Mine.pow5_bnd (by assumption) (by assumption)).1)); (case kb4 => first | decide | (with_reducible exact (Mine.pow3_bnd (PySem.W.fmod_lo _ (by decide)) (PySem.W.fmod_hi _ (by decide)) (by assumption) (by assumption)).2) | (with_reducible exact (Mine.pow5_bnd (by assumption) (by assumption)).2)); intro r' hr'))))
  (k_with "m:kroom" => row_timed "fresh" (fail; ((simp only [PyProof.Rows.depth_deeper, PySem.recursionLimit] at *; omega))))
  w_top off
  first | (walk1; done) | exact ⟨trivial, trivial⟩
section
theorem word_9 : True := by
  (k_with "subscriptTail 1" => row_timed "fresh" (fail; (((with_reducible show wpAny _ _ (subscriptTail _ _ (Value.ref _) (Value.int _ _)) _ _ _); k_dflt (refine' item_tupleT ?t ?a ?b ?c ?d ?_; (case t => exact tup_base (by k_asm) (by k_asm)); (case a => decide); (case b => decide); (case c => rfl); (case d => rfl); k_whole)))))
  trivial
theorem callWith_F {M : Model} {A : Around} {E : Value → Shared → Prop} {s : Shared} {env : Env} {pos : Pos} {first : List Value} {Q : Value → Shared → Prop} {f : Addr} {cv : Value} {od : Option Addr} {fd : FuncData} {sl : Array (Option Value)} {e : Expr} {rest : List Expr} {g : Heap} (_hf : g.get? f = some ⟨cv, od, .func fd, sl⟩)
    (h : wpAny M A (spliced (backTo pos (starEach (e :: rest) env))) (fun vs s₁ => s₁.heap.get? f = some ⟨cv, od, .func fd, sl⟩ ∧ wpAny M A (call (.ref f) (first ++ vs)) Q E s₁) E s)
    (he : starEach (e :: rest) env = (false, eval e env) :: starEach rest env := by rfl) (hplain : (backTo pos (starEach rest env)).any (·.1) = false := by rfl) :
    wpAny M A (callWith pos (.ref f) first (backTo pos (starEach (e :: rest) env)) []) Q E s := by
  rw [he] at h ⊢
  exact callWith_of (by show ((false || (backTo pos (starEach rest env)).any (·.1)) || false) = false; rw [hplain]; rfl) (fun h hq => ⟨.frame, .inl rfl, (Looks.ld (part := none) hq).andThen .now⟩) (evalArgs_plain h)
theorem OpAt.monoT {P P' : Addr → Obj → Prop} {v : Value} {o : Op} (h : OpAt P v o) (k : ∀ a vs n, P a (tupOf vs n) → P' a (tupOf vs n)) : OpAt P' v o := by
  cases h with
  | doo ha => exact .doo (k _ _ _ ha)
  | stop ha => exact .stop (k _ _ _ ha)
  | test ha => exact .test (k _ _ _ ha)
  | jump ha => exact .jump (k _ _ _ ha)
theorem OpsAt.monoT {P P' : Addr → Obj → Prop} {vs : List Value} {os : List Op} (h : OpsAt P vs os) (k : ∀ a vs n, P a (tupOf vs n) → P' a (tupOf vs n)) : OpsAt P' vs os := by
  induction h with
  | nil => exact .nil
  | cons h _ ih => exact .cons (h.monoT k) ih
/-- the labels that labels_of tells -/
inductive LabAt : Op → Array Value → Prop where
  | doo {i : Int} : LabAt (.doo i) #[]
  | stop {x : Str} : LabAt (.stop x) #[]
  | test {v : Value} {l : Int} {t : Tok} : LabAt (.test v l) #[.int l t]
set_option maxHeartbeats 4000000 in
theorem labels_ok {w : World} {d u : Nat} {s : Shared} {hb : Heap} {p : Program} {loose : List Str} {mean : ExcName → Option Value} {mg mb : Str → Option Value}
    (X : (hd.heap_1 w.params).In hb) (T : Top p loose mean mg mb hb) (hK : hb.StaysIn s.heap)
    (v : Value) (op : Op) (ho : OpAt (fun b ob => s.heap.get? b = some ob) v op) (hj : ∀ l, op ≠ .jump l) (hl : ∀ w l, op = .test w l → 0 ≤ l)
    (hD : (AT d u).depth ≤ 900) (hU : (AT d u).units ≤ 5000) :
    Fn w (AT d u) s 57 [v] [] (fun h r => ∃ D its n, r = .ref D ∧ h.get? D = some (tupOf its n) ∧ s.heap.get? D = none ∧ LabAt op its) := by
  refine enter (K := hd.heap_1 w.params) (binds := [(Str.ofString "op", v)]) [] X T hK (fun _ h => nomatch h) (by k_is) (by k_is) (by k_room) (BindsTo.of_eq rfl) (locs rfl) ?_ rfl rfl rfl (by decide)
  intro g' L' h' Kg F' N' l1 X' T' S'
  k_lt l1
  have tup : ∀ {b : Addr} {vs : Array Value} {n : Nat}, s.heap.get? b = some (tupOf vs n) → g'.get? b = some (tupOf vs n) := fun e => Kg _ _ e (fun h => nomatch h)
  clear X T
  cases ho with
  | jump ha => exact absurd rfl (hj _)
  | @test a v l n t1 t2 ha =>
    have hag := tup ha
    have hl0 := hl _ _ rfl
    show wpAny _ _ _ _ _ _
    k_fold
    w_strict (k_steps)
    all_goals (try (exfalso; omega))
    show BodyEnd _ _ _ _ _
    exact ⟨_, _, rfl, Fr.keep (by assumption), _, _, _, rfl, News.get (by assumption) (.head _), fresh_in Kg (by assumption) (.head _) (fun h => nomatch h), .test⟩
  | doo ha =>
    have hag := tup ha
    show wpAny _ _ _ _ _ _
    k_fold
    w_strict (k_steps)
    all_goals (try (exfalso; omega))
    show BodyEnd _ _ _ _ _
    exact ⟨_, _, rfl, Fr.keep (by assumption), _, _, _, rfl, News.get (by assumption) (.head _), fresh_in Kg (by assumption) (.head _) (fun h => nomatch h), .doo⟩
  | stop ha =>
    have hag := tup ha
    show wpAny _ _ _ _ _ _
    k_fold
    w_strict (k_steps)
    all_goals (try (exfalso; omega))
    show BodyEnd _ _ _ _ _
    exact ⟨_, _, rfl, Fr.keep (by assumption), _, _, _, rfl, News.get (by assumption) (.head _), fresh_in Kg (by assumption) (.head _) (fun h => nomatch h), .stop⟩
section
variable {w : World} {p : Program} {loose : List Str} {mean : ExcName → Option Value} {mg mb : Str → Option Value} {A : Around} {s : Shared} {g : Heap} {L : Addr} {m : Str → Option Value} {Q : Value → Shared → Prop} {E : Value → Shared → Prop}
theorem labels_use (X : (hd.heap_1 w.params).In g) (T : Top p loose mean mg mb g) (hh : A.handled = none) (hd : A.depth ≤ 900) (hu : A.units ≤ 5000) {news : List (Addr × Obj)} (F : Fr g L s.heap m) (N : News g L s.heap news)
    {v : Value} {op : Op} (ho : OpAt (fun b ob => s.heap.get? b = some ob) v op) (hj : ∀ l, op ≠ .jump l) (hl : ∀ w l, op = .test w l → 0 ≤ l)
    (h : ∀ D its n h' tk, Fr g L h' m → News g L h' ((D, tupOf its n) :: news) → (∀ q ∈ news, q.1 ≠ D) → LabAt op its → Q (.ref D) { s with heap := h', toks := tk }) :
    wpAny (model PySem.Challenge.rw_pq0617_01.row.prog w) A (call (.ref 57) [v]) Q E s := by
  refine use2 (d := 900) (u := 5000) (labels_ok X T F.keep v op ho hj hl (Nat.le_refl _) (Nat.le_refl _)) hh hd hu F N (fun _ h => nomatch h) ?_
  rintro _ h' tk F' k1 k2 ⟨D, its, n, rfl, hg, hf, hL⟩
  refine h D its n h' tk F' (news_cons (k2 _ hg (.inr hf)) (news_all fun q hq => k1 q hq fun h => nomatch h)) (fun q hq e => ?_) hL
  have := (N q hq).1
  rw [e, hf] at this; cases this
end
/-- where the labels lead: the places' values -/
def ChangeOk (w : World) (s : Shared) (f : Addr) (pvs : List Value) : Prop :=
  (∃ cv od fd sl, s.heap.get? f = some ⟨cv, od, .func fd, sl⟩) ∧
  ∀ (d u : Nat) (s' : Shared), d ≤ 900 → u ≤ 5000 → (∀ b o, s.heap.get? b = some o → s'.heap.get? b = some o) → ∀ (l : Int) (t : Tok) (v : Value), 0 ≤ l → pvs[l.toNat]? = some v → Fn w (AT d u) s' f [.int l t] [] (fun _ r => r = v)
inductive OpTo (pvs : List Value) (P : Addr → Obj → Prop) (same : Value → Prop) : Value → Op → Prop where
  | same {v : Value} {op : Op} (h : same v) (hj : ∀ l, op ≠ .jump l) (ht : ∀ w l, op ≠ .test w l) : OpTo pvs P same v op
  | test {a : Addr} {v v' : Value} {l : Int} {n : Nat} {t : Tok} (hv : pvs[l.toNat]? = some v') (ha : P a (tupOf #[.str (Str.ofString "test") t, v, v'] n)) : OpTo pvs P same (.ref a) (.test v l)
  | jump {a : Addr} {v' : Value} {l : Int} {n : Nat} {t : Tok} (hv : pvs[l.toNat]? = some v') (ha : P a (tupOf #[.str (Str.ofString "jump") t, v'] n)) : OpTo pvs P same (.ref a) (.jump l)
theorem change_use {w : World} {A : Around} {s s₀ : Shared} {g : Heap} {L : Addr} {m : Str → Option Value} {Q : Value → Shared → Prop} {E : Value → Shared → Prop} {f : Addr} {pvs : List Value} (C : ChangeOk w s₀ f pvs) (hk : ∀ b o, s₀.heap.get? b = some o → g.get? b = some o)
    (hh : A.handled = none) (hd : A.depth ≤ 900) (hu : A.units ≤ 5000) {news : List (Addr × Obj)} (F : Fr g L s.heap m) (N : News g L s.heap news) {l : Int} {t : Tok} {v : Value} (h0 : 0 ≤ l) (hv : pvs[l.toNat]? = some v)
    (h : ∀ h' tk, Fr g L h' m → News g L h' news → Q v { s with heap := h', toks := tk }) :
    wpAny (model PySem.Challenge.rw_pq0617_01.row.prog w) A (call (.ref f) [.int l t]) Q E s := by
  refine use2 (d := 900) (u := 5000) (C.2 900 5000 s (Nat.le_refl _) (Nat.le_refl _) (fun b o e => F.keep b o (hk b o e)) l t v h0 hv) hh hd hu F N (fun _ h => nomatch h) ?_
  rintro _ h' tk F' k1 k2 rfl
  exact h h' tk F' (news_all fun q hq => k1 q hq fun h => nomatch h)
theorem word_10 : True := by
  (k_with "m:room" => row_timed "fresh" (fail; (((try simp only [depth_deeper, units_deeper, AT_depth, AT_units]); omega))))
  (k_with "callWith ref" => row_timed "fresh" (fail; ((k_dflt (refine' callWith_F ?hf ?_; (case hf => k_asm); k_whole)))))
  (k_with "And" => row_timed "fresh" (fail; (((with_reducible show Heap.get? _ _ = _ ∧ _); refine And.intro (Fr.keep (by k_asm) _ _ (by k_asm)) ?_; try dsimp only [List.nil_append, List.cons_append]))))
  (k_with "call ref 1" => row_timed "fresh" (fail; (((show wpAny _ _ (call (Value.ref _) [Value.int _ _]) _ _ _); refine' change_use ?C ?Kg ?hh ?hd ?hu ?F ?N ?h0 ?hv ?_; (case C => k_asm); (case Kg => k_asm); (case hh => rfl); (case hd => k_extra "m:room"); (case hu => k_extra "m:room"); (case F => k_asm); (case N => k_asm); (case hv => k_asm); (case h0 => omega); intro h' tk' F' N'; (try k_sweep); (try dsimp only)))))
  (k_with "call ref 2" => row_timed "fresh" (fail; (((show wpAny _ _ (call (Value.ref 57) [_]) _ _ _); refine' labels_use ?X ?T ?hh ?hd ?hu ?F ?N ?ho ?hj ?hl ?_; (case X => k_asm); (case T => k_asm); (case hh => rfl); (case hd => k_extra "m:room"); (case hu => k_extra "m:room"); (case F => k_asm); (case N => k_asm); (case ho => exact OpAt.mono (by assumption) (Fr.keep (by k_asm))); (case hj => (intro _ h; cases h)); (case hl => (intro _ _ h; cases h; try assumption)); intro D its n h' tk' F' N' hD' hL'; cases hL'; (try k_sweep); (try dsimp only)))))
  trivial
set_option maxHeartbeats 4000000 in
theorem relab_ok {w : World} {d u : Nat} {s : Shared} {hb : Heap} {p : Program} {loose : List Str} {mean : ExcName → Option Value} {mg mb : Str → Option Value}
    (X : (hd.heap_1 w.params).In hb) (T : Top p loose mean mg mb hb) (hK : hb.StaysIn s.heap)
    (v : Value) (op : Op) (f : Addr) (pvs : List Value) (ho : OpAt (fun b ob => s.heap.get? b = some ob) v op) (C : ChangeOk w s f pvs) (hl : ∀ l, (op = .jump l ∨ ∃ w, op = .test w l) → 0 ≤ l ∧ ∃ v', pvs[l.toNat]? = some v')
    (hD : d + 10 ≤ 900) (hU : u + 100 ≤ 5000) :
    Fn w (AT d u) s 62 [v, .ref f] [] (fun h r => OpTo pvs (fun b ob => h.get? b = some ob ∧ s.heap.get? b = none) (fun r => r = v) r op) := by
  refine enterC (K := hd.heap_1 w.params) (binds := [(Str.ofString "op", v), (Str.ofString "change", .ref f)]) [] X T hK (fun _ h => nomatch h) (by k_is) (by k_is) (by simp only [recursionLimit]; omega) (BindsTo.of_eq rfl) rfl (by decide +kernel) ?_ rfl rfl rfl
  intro g' L' h' tk0 cells Kg F' N' Y' l1 X' T' S' Gs
  k_cells Y'
  simp only [List.cons_append, List.nil_append] at N'
  have tup : ∀ {b : Addr} {vs : Array Value} {n : Nat}, s.heap.get? b = some (tupOf vs n) → g'.get? b = some (tupOf vs n) := fun e => Kg _ _ e (fun h => nomatch h)
  have Kg' : ∀ b o, s.heap.get? b = some o → g'.get? b = some o := fun b o e => Kg _ _ e (fun h => nomatch h)
  obtain ⟨cv, od, fd, sl, hfo⟩ := C.1
  have hfg := Kg' _ _ hfo
  have hog : OpAt (fun b ob => g'.get? b = some ob) v op := ho.mono fun b ob e => Kg' b ob e
  clear X T
  cases ho with
  | @jump a l n t1 t2 ha =>
    have hag := tup ha
    obtain ⟨hl0, v', hv'⟩ := hl _ (.inl rfl)
    show wpAny _ _ _ _ _ _
    k_fold
    w_strict (k_steps)
    show BodyEnd _ _ _ _ _
    exact ⟨_, _, rfl, Fr.keep (by assumption), .jump hv' ⟨News.get (by assumption) (.head _), fresh_in Kg (by assumption) (.head _) (fun h => nomatch h)⟩⟩
  | @test a v l n t1 t2 ha =>
    have hag := tup ha
    obtain ⟨hl0, v', hv'⟩ := hl _ (.inr ⟨_, rfl⟩)
    show wpAny _ _ _ _ _ _
    k_fold
    w_strict (k_steps)
    show BodyEnd _ _ _ _ _
    exact ⟨_, _, rfl, Fr.keep (by assumption), .test hv' ⟨News.get (by assumption) (.head _), fresh_in Kg (by assumption) (.head _) (fun h => nomatch h)⟩⟩
  | doo ha =>
    have hag := tup ha
    show wpAny _ _ _ _ _ _
    k_fold
    w_strict (k_steps)
    show BodyEnd _ _ _ _ _
    exact ⟨_, _, rfl, Fr.keep (by assumption), .same rfl (fun _ h => nomatch h) (fun _ _ h => nomatch h)⟩
  | stop ha =>
    have hag := tup ha
    show wpAny _ _ _ _ _ _
    k_fold
    w_strict (k_steps)
    show BodyEnd _ _ _ _ _
    exact ⟨_, _, rfl, Fr.keep (by assumption), .same rfl (fun _ h => nomatch h) (fun _ _ h => nomatch h)⟩
theorem OpTo.mono {pvs : List Value} {P P' : Addr → Obj → Prop} {same : Value → Prop} {r : Value} {op : Op} (h : OpTo pvs P same r op) (k : ∀ a o, P a o → P' a o) : OpTo pvs P' same r op := by
  cases h with
  | same h hj ht => exact .same h hj ht
  | test hv ha => exact .test hv (k _ _ ha)
  | jump hv ha => exact .jump hv (k _ _ ha)
theorem OpTo.list {pvs : List Value} {P : Addr → Obj → Prop} {same : Value → Prop} {r : Value} {op : Op} (h : OpTo pvs P same r op) : ∃ R : List (Addr × Obj), (∀ q ∈ R, P q.1 q.2) ∧ OpTo pvs (fun a o => (a, o) ∈ R) same r op := by
  cases h with
  | same h hj ht => exact ⟨[], (fun _ h => nomatch h), .same h hj ht⟩
  | test hv ha => exact ⟨_, fun q hq => by rw [List.mem_singleton.mp hq]; exact ha, .test hv (List.mem_singleton.mpr rfl)⟩
  | jump hv ha => exact ⟨_, fun q hq => by rw [List.mem_singleton.mp hq]; exact ha, .jump hv (List.mem_singleton.mpr rfl)⟩
theorem relab_use {w : World} {p : Program} {loose : List Str} {mean : ExcName → Option Value} {mg mb : Str → Option Value} {A : Around} {s : Shared} {g : Heap} {L : Addr} {m : Str → Option Value} {Q : Value → Shared → Prop} {E : Value → Shared → Prop}
    (X : (hd.heap_1 w.params).In g) (T : Top p loose mean mg mb g) (hh : A.handled = none) (hd : A.depth ≤ 890) (hu : A.units ≤ 4900) {news : List (Addr × Obj)} (F : Fr g L s.heap m) (N : News g L s.heap news)
    {v : Value} {op : Op} {f : Addr} {pvs : List Value} (ho : OpAt (fun b ob => s.heap.get? b = some ob) v op) (C : ChangeOk w s f pvs) (hl : ∀ l, (op = .jump l ∨ ∃ w, op = .test w l) → 0 ≤ l ∧ ∃ v', pvs[l.toNat]? = some v')
    (h : ∀ r R h' tk, Fr g L h' m → News g L h' (R ++ news) → (∀ q ∈ R, ∀ q' ∈ news, q'.1 ≠ q.1) → OpTo pvs (fun b ob => (b, ob) ∈ R) (fun r => r = v) r op → Q r { s with heap := h', toks := tk }) :
    wpAny (model PySem.Challenge.rw_pq0617_01.row.prog w) A (call (.ref 62) [v, .ref f]) Q E s := by
  refine use2 (d := 890) (u := 4900) (relab_ok X T F.keep v op f pvs ho C hl (Nat.le_refl _) (Nat.le_refl _)) hh hd hu F N (fun _ h => nomatch h) ?_
  rintro r h' tk F' k1 k2 hr
  obtain ⟨R, hR, hto⟩ := hr.list
  refine h r R h' tk F' (news_app (news_all fun q hq => k2 q (hR q hq).1 (.inr (hR q hq).2)) (news_all fun q hq => k1 q hq fun h => nomatch h)) (fun q hq q' hq' e => ?_) hto
  have := (N q' hq').1
  rw [e, (hR q hq).2] at this; cases this
end
theorem fresh_C10 : True ∧ True := by
  k_with_none
  (k_with "binaryOp Pow int int 1" => row_timed "fresh" (fail; (((with_reducible refine Mine.my_pow ?kb1 ?kb2 ?kb3 ?kb4 ?_); (case kb1 => decide); (case kb2 => decide); (case kb3 => first | decide | (with_reducible exact (Mine.pow3_bnd (PySem.W.fmod_lo _ (by decide)) (PySem.W.fmod_hi _ (by decide)) (by assumption) (by assumption)).1) | (with_reducible exact (Mine.pow5_bnd (by assumption) (by assumption)).1)); (case kb4 => first | decide | (with_reducible exact (Mine.pow3_bnd (PySem.W.fmod_lo _ (by decide)) (PySem.W.fmod_hi _ (by decide)) (by assumption) (by assumption)).2) | (with_reducible exact (Mine.pow5_bnd (by assumption) (by assumption)).2)); intro r' hr'))))
  (k_with "m:kroom" => row_timed "fresh" (fail; ((simp only [PyProof.Rows.depth_deeper, PySem.recursionLimit] at *; omega))))
  w_top off
  first | (walk1; done) | exact ⟨trivial, trivial⟩
section
def Hold (P : Prop) : Prop := P
section
variable {prog : Program} {w : World} {A : Around} {E : Value → Shared → Prop} {s : Shared} {h₀ : Heap} {L : Addr} {m : Str → Option Value} {env : Env}
theorem ListComp_H {elt iter : Expr} {x : Str} {px : Pos} {scope : Scope} {cl : List (Str × Addr)} {pos : Pos} {Q : Value → Shared → Prop} (F₀ : Fr h₀ L s.heap m)
    (hclos : closureFor scope env = pure cl) (hcell : ∀ y ∈ scope.names, y.2 ≠ .cell) (hkind : scope.kind = .function)
    (hnames : ∀ y ∈ scope.names, y.2 = .local → scope.names.lookup y.1 = some .local) (hx : scope.names.lookup x = some .local)
    (h : wpAny (model prog w) A (eval iter env) (fun v s₁ => Hold (LCg.CompSrc prog w A h₀ L m env elt x scope cl (fun s₂ => LCg.FinE h₀ L m s₂ Q) v s₁)) E s)
    (hs : ∀ x, foldedSetIterable iter env x = pure x) :
    wpAny (model prog w) A (eval (.ListComp elt [⟨.Name x px, iter, [], 0⟩] scope pos) env) Q E s :=
  LCg.ListComp_U F₀ hclos hcell hkind hnames hx h hs
theorem compRest_of {elt : Expr} {x : Str} {scope : Scope} {cl : List (Str × Addr)} {S : List (Addr × Obj) → Prop} {P : Nat → Value → Prop} {Fin : List Value → List (Addr × Obj) → Prop} {n : Nat} (J : Nat → List Value → List (Addr × Obj) → Prop)
    (step : ∀ i v ys news I oI C oC D m₂ h tk (E' : Value → Shared → Prop), i < n → P i v → J i ys news → LCg.NsObj oC m₂ → m₂ x = some v → Fr h₀ L h m → News h₀ L h ((I, oI) :: (C, oC) :: (D, LCg.lst ys) :: news) → LCg.Off3 I C D news → ((@Ne Nat I C) ∧ (@Ne Nat I D) ∧ (@Ne Nat C D)) →
      wpAny (model prog w) A (eval elt (compEnvC scope cl C env)) (LCg.CompEnd h₀ L m { s with heap := h, toks := tk } I oI C oC D (LCg.lst ys) S (fun y news' => J (i + 1) (ys ++ [y]) news')) E' { s with heap := h, toks := tk })
    (done : ∀ ys news, J n ys news → Fin ys news) : ∀ k i, i + k = n → ∀ ys news, J i ys news → LCg.CompRest prog w A h₀ L m env elt x scope cl s S P Fin k i ys news
  | 0, i, e, ys, news, hj => .zero (done ys news (by rw [Nat.add_zero] at e; exact e ▸ hj))
  | k + 1, i, e, ys, news, hj => .succ fun v I oI C oC D m₂ h tk E' hp hn hm F N off ne =>
    wpAny_mono (step i v ys news I oI C oC D m₂ h tk E' (by omega) hp hj hn hm F N off ne) (fun y s₂ hy => by
      obtain ⟨h', tk', news', e', F', N', o', hS, hr⟩ := hy
      exact ⟨h', tk', news', e', F', N', o', hS, compRest_of J step done k (i + 1) (by omega) _ _ hr⟩) fun _ _ x => x
end
section
variable {w : World} {A : Around} {s : Shared} {K : Frag} {hb : Heap} {p : Program} {loose : List Str} {mean : ExcName → Option Value} {mg mb : Str → Option Value}
theorem enterL {name qual : Str} {params : Arguments} {body : Expr} {scope : Scope} {cl : List (Str × Addr)} {pm ctv : Value} {c' : Addr} {f : Addr} {args : List Value} {binds : List (Str × Value)} {Post : Heap → Value → Prop}
    (news : List (Addr × Obj)) (X : K.In hb) (T : Top p loose mean mg mb hb) (hK : hb.StaysIn s.heap) (hN : ∀ q ∈ news, s.heap.get? q.1 = some q.2 ∧ hb.get? q.1 = none)
    (ho : s.heap.get? f = some (kla_obj name qual params body scope cl pm c' ctv)) (hcd : s.heap.CodeRec (.ref c') qual) (hroom : A.depth < recursionLimit)
    (hbind : bindArgs (kla_fn name qual params body scope cl pm (.ref c') ctv) ⟨args, []⟩ = pure binds) (hloc : ∀ y ∈ binds, scope.names.lookup y.1 = some .local)
    (h : ∀ g L' h₁, (∀ a o, s.heap.get? a = some o → a ∉ news.map Prod.fst → g.get? a = some o) → Fr g L' h₁ (fun y => binds.reverse.lookup y) → News g L' h₁ news → (∀ q ∈ news, q.1 < L') → K.In g → Top p loose mean mg mb g → hb.StaysIn g →
      wpAny (model PySem.Challenge.rw_pq0617_01.row.prog w) (A.deeper (envX qual scope L' f (.ref c') cl)) (eval body (envX qual scope L' f (.ref c') cl))
        (fun v s' => BodyEnd g s Post v s') (fun _ _ => False)
        { s with heap := h₁, toks := s.toks + binds.length })
    (hco : scope.isCoroutine = false) (hgen : scope.isGenerator = false) (hk : scope.kind = .function) (hcell : ∀ x ∈ scope.names, x.2 ≠ .cell) :
    Fn w A s f args (news.map Prod.fst) Post := by
  have nm : ∀ b o, hb.get? b = some o → b ∉ news.map Prod.fst := fun b o e q => by
    obtain ⟨p, hp, rfl⟩ := List.mem_map.mp q
    rw [(hN p hp).2] at e; cases e
  have st : hb.StaysIn (hideAll s.heap (news.map Prod.fst)) := fun b o e => hideAll_get _ (hK b o e) (nm b o e)
  refine kla_callFunE hroom ho rfl hco hgen rfl hcd ?_
  rw [hbind]
  refine wpAny_pure (wpAny_newFunctionEnv hcell hloc (fun h₁ hns hsb => ⟨(T.nolimit.keeps hK).fresh _ hsb, ?_⟩) hk)
  show codeAny _ _ (.expr body (envX qual scope s.heap.objs.size f (.ref c') cl)) _ _
  have hk₁ : ∀ b o, s.heap.get? b = some o → h₁.get? b = some o := fun b o e => hsb.extBut b o (Nat.ne_of_lt (Heap.lt_size e)) (Heap.get?_push_of_some _ e)
  refine kla_codeExpr (wpAny_mono (h (hideAll s.heap (news.map Prod.fst)) s.heap.objs.size h₁ (fun a o e n => hideAll_get _ e n) ⟨hns, fun b o e => hk₁ b o (of_hideAll _ e), Nat.le_of_eq (hideAll_size _ _)⟩
    (fun q hq => ⟨hk₁ _ _ (hN q hq).1, Nat.ne_of_lt (Heap.lt_size (hN q hq).1), hideAll_none _ (List.mem_map_of_mem hq)⟩) (fun q hq => Heap.lt_size (hN q hq).1) (X.keeps st) (T.keeps st) st) (fun v s' hl => ?_) fun _ _ y => y.elim)
  obtain ⟨h', tk, e, hk', hp⟩ := hl
  exact ⟨_, h', tk, rfl, e, fun a o ea na => hk' a o (hideAll_get _ ea na), hp⟩
end
section
variable {M : Model} {A : Around} {E : Value → Shared → Prop} {s : Shared} {h₀ : Heap} {L c P : Addr} {m mg mb : Str → Option Value} {env : Env} {news : List (Addr × Obj)} {g : Obj → List (Addr × Obj)}
  {p : Program} {loose : List Str} {mean : ExcName → Option Value} {params : Arguments} {body : Expr} {scope : Scope} {ps : Array Value} {pos : Pos} {clos : List (Str × Addr)}
/-- a lambda made within a block (the table has no code for it yet) -/
theorem lam_new {Q : Value → Shared → Prop} (hdef : defaultsOf params env = ([], [])) (hge : env.globals = mainGlobals) (hcd : env.code = .ref c) (F : Fr h₀ L s.heap m) (N : News h₀ L s.heap news) (T : Top p loose mean mg mb h₀) (C : CodeHd h₀ c P) (U : UpdF P (tabObj ps) news g) (ht : TriplesOk ps.toList) (hnf : codeAmong pos ps.toList = none)
    (hcl : closureFor scope env = pure clos)
    (h : ∀ f c' oc vs t ctv h' tk, Fr h₀ L h' m →
      News h₀ L h' ((f, kla_obj "<lambda>" (env.qual ++ "<lambda>") params body scope clos ((mg "__name__").getD .none) c' ctv) :: (c', oc) :: g (tabObj (ps ++ #[rawInt pos.line, rawInt pos.col, .ref c']))) →
      oc.data = .fields vs → vs[1]? = some (.str (env.qual ++ "<lambda>") t) → (∀ q ∈ news, q.1 < c') → c' < f → Q (.ref f) { s with heap := h', toks := tk }) :
    wpAny M A (eval (.Lambda params body scope pos) env) Q E s := by
  refine kla_eval hdef ?_
  obtain ⟨own, rest, rfl, hgr, h1, h2⟩ := U.split
  have hm := N (P, tabObj ps) (List.mem_append_right _ (.head _))
  have hgs := T.g.keeps F.keep
  obtain ⟨bm, ob, b1, b2, b3, b4, b5, b6⟩ := T.bmain
  have hgP : mainGlobals ≠ P := fun q => by
    obtain ⟨o, es, ep, e, hd, _⟩ := hgs
    rw [q, hm.1] at e; cases e; cases hd
  have hbP : bm ≠ P := fun q => by
    have e := F.keep _ _ b3
    rw [q, hm.1] at e; cases e; cases b4
  have hbG : bm ≠ mainGlobals := fun q => by
    obtain ⟨o, es, ep, e, hd, _⟩ := T.g
    rw [q, e] at b3; cases b3; rw [hd] at b6; cases b6
  refine kla_makeFunction (mg := mg) hcl hge hgs hcd (C.keeps F.keep) hm.1 ht hnf hgP ⟨bm, ob, b1, b2, hbG, hbP, F.keep _ _ b3, b4, b5, b6⟩ fun c' ctv h' tk hx hge hlt hrec htb => ?_
  obtain ⟨c₂, oc, vs, t, e2, hoc, hd, hv⟩ := hrec
  cases e2
  have hLs : L < s.heap.objs.size := F.ns.lt
  have hLc : L < c' := Nat.lt_of_lt_of_le hLs hge
  have old : ∀ b o, h₀.get? b = some o → h'.get? b = some o := fun b o e => hx b o (fun q => by rw [q, hm.2.2] at e; cases e) (F.keep b o e)
  have fresh : ∀ b, L < b → h₀.get? b = none := fun b hb => Heap.get?_none_of_le (Nat.le_trans F.above (Nat.le_of_lt hb))
  refine h h'.objs.size c' oc vs t ctv _ tk ⟨(F.ns.extBut hx hm.2.1.symm).push _, fun b o e => Heap.get?_push_of_some _ (old b o e), F.above⟩ (fun q hq => ?_) hd hv
    (fun q hq => Nat.lt_of_lt_of_le (Heap.lt_size (N q hq).1) hge) hlt
  rcases List.mem_cons.mp hq with rfl | hq
  · exact ⟨Heap.get?_push_size _ rfl, Nat.ne_of_gt (Nat.lt_trans hLc hlt), fresh _ (Nat.lt_trans hLc hlt)⟩
  · rcases List.mem_cons.mp hq with rfl | hq
    · exact ⟨Heap.get?_push_of_some _ hoc, Nat.ne_of_gt hLc, fresh _ hLc⟩
    · rw [hgr] at hq
      rcases List.mem_append.mp hq with hq | hq
      · have n := N q (List.mem_append_left _ hq)
        exact ⟨Heap.get?_push_of_some _ (hx _ _ (h1 q hq) n.1), n.2⟩
      · rcases List.mem_cons.mp hq with rfl | hq
        · exact ⟨Heap.get?_push_of_some _ htb, hm.2⟩
        · have n := N q (List.mem_append_right _ (.tail _ hq))
          exact ⟨Heap.get?_push_of_some _ (hx _ _ (h2 q hq) n.1), n.2⟩
/-- a lambda made within a block (the table has its code) -/
theorem lam_hit {Q : Value → Shared → Prop} {c' : Addr} (hdef : defaultsOf params env = ([], [])) (hge : env.globals = mainGlobals) (hcd : env.code = .ref c) (F : Fr h₀ L s.heap m) (N : News h₀ L s.heap news) (T : Top p loose mean mg mb h₀) (C : CodeHd h₀ c P) (hmem : (P, tabObj ps) ∈ news) (ht : TriplesOk ps.toList) (hf : codeAmong pos ps.toList = some (.ref c'))
    (hcl : closureFor scope env = pure clos)
    (h : ∀ f ctv h' tk, Fr h₀ L h' m → News h₀ L h' ((f, kla_obj "<lambda>" (env.qual ++ "<lambda>") params body scope clos ((mg "__name__").getD .none) c' ctv) :: news) → (∀ q ∈ news, q.1 < f) → Q (.ref f) { s with heap := h', toks := tk }) :
    wpAny M A (eval (.Lambda params body scope pos) env) Q E s := by
  refine kla_eval hdef ?_
  have hm := N (P, tabObj ps) hmem
  have hgs := T.g.keeps F.keep
  obtain ⟨bm, ob, b1, b2, b3, b4, b5, b6⟩ := T.bmain
  have hbP : bm ≠ P := fun q => by
    have e := F.keep _ _ b3
    rw [q, hm.1] at e; cases e; cases b4
  have hbG : bm ≠ mainGlobals := fun q => by
    obtain ⟨o, es, ep, e, hd, _⟩ := T.g
    rw [q, e] at b3; cases b3; rw [hd] at b6; cases b6
  refine kla_makeFunctionHit (mg := mg) hcl hge hgs hcd (C.keeps F.keep) hm.1 ht hf ⟨bm, ob, b1, b2, hbG, hbP, F.keep _ _ b3, b4, b5, b6⟩ fun ctv h' tk hk hsz => ?_
  have hLs : L < h'.objs.size := Nat.lt_of_lt_of_le F.ns.lt hsz
  have fresh : ∀ b, L < b → h₀.get? b = none := fun b hb => Heap.get?_none_of_le (Nat.le_trans F.above (Nat.le_of_lt hb))
  refine h h'.objs.size ctv _ tk ⟨(F.ns.keeps hk).push _, fun b o e => Heap.get?_push_of_some _ (hk b o (F.keep b o e)), F.above⟩ (fun q hq => ?_) (fun q hq => Nat.lt_of_lt_of_le (Heap.lt_size (N q hq).1) hsz)
  rcases List.mem_cons.mp hq with rfl | hq
  · exact ⟨Heap.get?_push_size _ rfl, Nat.ne_of_gt hLs, fresh _ hLs⟩
  · exact ⟨Heap.get?_push_of_some _ (hk _ _ (N q hq).1), (N q hq).2⟩
end
theorem item_base {prog : Program} {w : World} {A : Around} {E : Value → Shared → Prop} {s : Shared} {value slice : PySem.Expr} {g : Heap} {L l : Addr} {m : Str → Option Value} {vs : List Value} {n : Nat} {k : Int} {u : Tok} {v : Value} {Q : Value → Shared → Prop} (F : Fr g L s.heap m) (hl : g.get? l = some (W.listOf vs.toArray n))
    (h0 : 0 ≤ k) (hfit : k < 2 ^ 63) (hx : vs[k.toNat]? = some v) (h : Q v s)
    (hs : subscripted slice false (.ref l) (.int k u) = operate [.ref l, .int k u] (getItem (.ref l) (.int k u)) := by with_unfolding_all rfl) (hg : ∀ r, letTemporaryGo value (.ref l) r = pure () := by intro _; with_unfolding_all rfl) :
    wpAny (model prog w) A (subscriptTail value slice (.ref l) (.int k u)) Q E s :=
  item_list (items := vs.toArray) ⟨_, F.keep _ _ hl, rfl, _, rfl⟩ h0 hfit (by simpa using hx) h hs hg
theorem nameX_FB {M : Model} {A : Around} {E : Value → Shared → Prop} {s : Shared} {g : Heap} {L L' a : Addr} {m : Str → Option Value} {cn : Str} {cs : Scope} {ccd : Value} {cl : List (Str × Addr)} {x : Str} {pos : Pos} {v : Value} {Q : Value → Shared → Prop} {c : Addr} {o : Obj}
    (F : Fr g L' s.heap m) (hc : cl.lookup x = some c) (hm : g.get? c = some o) (hd : o.data = .cell (some v)) (h : Q v s)
    (hk : cs.kind = .function) (hx : (envX cn cs L a ccd cl).kindOf x = some .free) (hb : (x == ("__debug__" : Str)) = false := by decide) (hn : (x == ("__classdict__" : Str)) = false := by decide) :
    wpAny M A (eval (.Name x pos) (envX cn cs L a ccd cl)) Q E s := wpAny_Name (wpAny_loadName_free hk hx hc ⟨o, F.keep _ _ hm, hd⟩ h hn) hb
end
theorem fresh_K1 : True ∧ True := by
  k_with_none
  (k_with "binaryOp Pow int int 1" => row_timed "fresh" (fail; (((with_reducible refine Mine.my_pow ?kb1 ?kb2 ?kb3 ?kb4 ?_); (case kb1 => decide); (case kb2 => decide); (case kb3 => first | decide | (with_reducible exact (Mine.pow3_bnd (PySem.W.fmod_lo _ (by decide)) (PySem.W.fmod_hi _ (by decide)) (by assumption) (by assumption)).1) | (with_reducible exact (Mine.pow5_bnd (by assumption) (by assumption)).1)); (case kb4 => first | decide | (with_reducible exact (Mine.pow3_bnd (PySem.W.fmod_lo _ (by decide)) (PySem.W.fmod_hi _ (by decide)) (by assumption) (by assumption)).2) | (with_reducible exact (Mine.pow5_bnd (by assumption) (by assumption)).2)); intro r' hr'))))
  (k_with "m:kroom" => row_timed "fresh" (fail; ((simp only [PyProof.Rows.depth_deeper, PySem.recursionLimit] at *; omega))))
  w_top off
  first | (walk1; done) | exact ⟨trivial, trivial⟩
section
theorem under_handled (A : Around) (c : Code) : (A.under c).handled = A.handled := rfl
theorem cls_use {w : World} {A : Around} {s : Shared} {g : Heap} {L : Addr} {m : Str → Option Value} {Q : Value → Shared → Prop} {E : Value → Shared → Prop} {C fI : Addr} {pos : List Value} {d u : Nat} {news : List (Addr × Obj)}
    (X : (hd.heap_1 w.params).In g) (hh : A.handled = none) (hdp : A.depth + 1 ≤ d) (hu : A.units + 1 ≤ u) (F : Fr g L s.heap m) (N : News g L s.heap news)
    (hm : makesIn (hd.heap_1 w.params) C = true) (hi : findIn (hd.heap_1 w.params) (.ref C) "__init__" = some (some (.ref fI))) (hf : isFn (hd.heap_1 w.params) (.ref fI) = true)
    (Post : Addr → Addr → Shared → Heap → Value → Prop) (hn : ∀ x dx s' h v, Post x dx s' h v → v = .none)
    (H : ∀ x dx s', g.StaysIn s'.heap → (∀ q ∈ news, s'.heap.get? q.1 = some q.2) → s'.heap.get? x = some (instObj C dx) → s'.heap.get? dx = some (dictOf [] 0) → g.get? dx = none → Fn w (AT d u) s' fI (.ref x :: pos) [dx] (Post x dx s'))
    (h : ∀ x dx s' h' tk, Fr g L h' m → (∀ q ∈ (x, instObj C dx) :: news, News g L h' [q]) → (∀ q : Addr × Obj, h'.get? q.1 = some q.2 → q.1 = dx ∨ s'.heap.get? q.1 = none → News g L h' [q]) → (∀ q ∈ news, s'.heap.get? q.1 = some q.2) → (∀ q ∈ news, q.1 < dx) → dx < x → s'.heap.get? x = some (instObj C dx) → Post x dx s' h' .none → Q (.ref x) { s with heap := h', toks := tk }) :
    wpAny (model PySem.Challenge.rw_pq0617_01.row.prog w) A (call (.ref C) pos) Q E s := by
  refine call_cls F X N hm hi hf fun x dx h₁ F₁ N₁ l1 l2 => ?_
  have hx := N₁ _ (.head _)
  have hdx := N₁ _ (.tail _ (.head _))
  have hxd : x ≠ dx := Ne.symm (Nat.ne_of_lt l2)
  have hold : ∀ q ∈ news, h₁.get? q.1 = some q.2 := fun q hq => (N₁ q (.tail _ (.tail _ hq))).1
  have hFn := H x dx { s with heap := h₁ } (fun b o e => F₁.keep b o e) hold hx.1 hdx.1 hdx.2.2
  refine codeAny_mono (codeAny_weak hFn hh hdp hu) fun r s' hr => ?_
  obtain ⟨v, h', tk, rfl, rfl, hk, hp⟩ := hr
  obtain rfl := hn _ _ _ _ _ hp
  refine ⟨rfl, ?_⟩
  have nd : ∀ b o, h₁.get? b = some o → b ≠ dx → h'.get? b = some o := fun b o e n => hk b o e (fun hm => n (List.mem_singleton.mp hm))
  have hLd : L ≠ dx := fun e => hdx.2.1 e.symm
  obtain ⟨oL, es, ep, hL, hLd', hLk, hLf⟩ := F₁.ns
  have gd : ∀ b o, g.get? b = some o → b ≠ dx := fun b o e q => by rw [q, hdx.2.2] at e; cases e
  refine h x dx { s with heap := h₁ } h' tk ⟨⟨oL, es, ep, nd _ _ hL hLd, hLd', hLk, hLf⟩, fun b o e => nd _ _ (F₁.keep b o e) (gd b o e), F₁.above⟩ (fun q hq p hp => ?_) (fun q hq hc p hp => ?_) hold l1 l2 hx.1 hp
  · rw [List.mem_singleton.mp hp]
    rcases List.mem_cons.mp hq with rfl | hq
    · exact ⟨nd _ _ hx.1 hxd, hx.2⟩
    · exact ⟨nd _ _ (hold q hq) (Nat.ne_of_lt (l1 q hq)), (N₁ q (.tail _ (.tail _ hq))).2⟩
  · rw [List.mem_singleton.mp hp]
    refine ⟨hq, ?_, ?_⟩
    · rintro e
      rcases hc with hc | hc
      · exact hLd (e.symm.trans hc)
      · rw [e] at hc; rw [show ({ s with heap := h₁ } : Shared).heap.get? L = h₁.get? L from rfl, hL] at hc; cases hc
    · cases e : g.get? q.1 with
      | none => rfl
      | some o =>
        rcases hc with hc | hc
        · exact absurd hc (gd _ _ e)
        · have := F₁.keep _ _ e
          rw [show ({ s with heap := h₁ } : Shared).heap.get? q.1 = h₁.get? q.1 from rfl, this] at hc; cases hc
theorem inst_mix {g h : Heap} {L x dx C : Addr} {m : Str → Option Value} {sl : Array (Option Value)} {od : Obj} {news : List (Addr × Obj)} (F : Fr g L h m) (h1 : g.get? x = some ⟨.ref C, some dx, .plain, sl⟩) (N : News g L h news) (h2 : (dx, od) ∈ news) :
    InstAt h x ⟨.ref C, some dx, .plain, sl⟩ C (some od) := ⟨F.keep _ _ h1, rfl, rfl, News.get N h2⟩
theorem word_11 : True := by
  (k_with "m:inst" => row_timed "fresh" (fail; (exact inst_mix (by k_asm) (by k_asm) (by k_asm) (by k_mem))))
  trivial
set_option maxHeartbeats 4000000 in
/-- Code.__init__ -/
theorem code_init {w : World} {d u : Nat} {s : Shared} {hb : Heap} {p : Program} {loose : List Str} {mean : ExcName → Option Value} {mg mb : Str → Option Value}
    (X : (hd.heap_1 w.params).In hb) (T : Top p loose mean mg mb hb) (hK : hb.StaysIn s.heap)
    (x dx : Addr) (v1 v2 : Value) (hx : s.heap.get? x = some (instObj 46 dx)) (hdx : s.heap.get? dx = some (dictOf [] 0)) (hf : hb.get? dx = none)
    (hD : d + 10 ≤ 900) :
    Fn w (AT d u) s 36 [.ref x, v1, v2] [dx] (fun h r => r = .none ∧ ∃ t1 t2 n, h.get? dx = some (dictOf [⟨PyData.keyHash w.params (Str.ofString "ops"), .str (Str.ofString "ops") t1, v1⟩, ⟨PyData.keyHash w.params (Str.ofString "begins"), .str (Str.ofString "begins") t2, v2⟩] n)) := by
  refine enter (K := hd.heap_1 w.params) (binds := [(Str.ofString "self", .ref x), (Str.ofString "ops", v1), (Str.ofString "begins", v2)]) [(dx, dictOf [] 0)] X T hK ?_ (by k_is) (by k_is) (by simp only [recursionLimit]; omega) (BindsTo.of_eq rfl) (locs rfl) ?_ rfl rfl rfl (by decide)
  · intro q hq; cases hq with
    | head => exact ⟨hdx, hf⟩
    | tail _ h => cases h
  intro g' L' h' Kg F' N' l1 X' T' S'
  k_lt l1
  have hxg : g'.get? x = some (instObj 46 dx) := Kg _ _ hx (nin1 (PySem.W.X.ne_objs _ _ _ _ hx hdx rfl))
  show wpAny _ _ _ _ _ _
  k_fold
  w_strict (k_steps)
  show BodyEnd _ _ _ _ _
  exact ⟨_, _, rfl, Fr.keep (by assumption), rfl, _, _, _, News.get (by assumption) (by k_mem)⟩
set_option maxHeartbeats 4000000 in
/-- Procedures.__init__ -/
theorem proc_init {w : World} {d u : Nat} {s : Shared} {hb : Heap} {p : Program} {loose : List Str} {mean : ExcName → Option Value} {mg mb : Str → Option Value}
    (X : (hd.heap_1 w.params).In hb) (T : Top p loose mean mg mb hb) (hK : hb.StaysIn s.heap)
    (x dx : Addr) (v1 v2 : Value) (hx : s.heap.get? x = some (instObj 490 dx)) (hdx : s.heap.get? dx = some (dictOf [] 0)) (hf : hb.get? dx = none)
    (hD : d + 10 ≤ 900) :
    Fn w (AT d u) s 468 [.ref x, v1, v2] [dx] (fun h r => r = .none ∧ ∃ t1 t2 n, h.get? dx = some (dictOf [⟨PyData.keyHash w.params (Str.ofString "rows"), .str (Str.ofString "rows") t1, v1⟩, ⟨PyData.keyHash w.params (Str.ofString "using"), .str (Str.ofString "using") t2, v2⟩] n)) := by
  refine enter (K := hd.heap_1 w.params) (binds := [(Str.ofString "self", .ref x), (Str.ofString "rows", v1), (Str.ofString "using", v2)]) [(dx, dictOf [] 0)] X T hK ?_ (by k_is) (by k_is) (by simp only [recursionLimit]; omega) (BindsTo.of_eq rfl) (locs rfl) ?_ rfl rfl rfl (by decide)
  · intro q hq; cases hq with
    | head => exact ⟨hdx, hf⟩
    | tail _ h => cases h
  intro g' L' h' Kg F' N' l1 X' T' S'
  k_lt l1
  have hxg : g'.get? x = some (instObj 490 dx) := Kg _ _ hx (nin1 (PySem.W.X.ne_objs _ _ _ _ hx hdx rfl))
  show wpAny _ _ _ _ _ _
  k_fold
  w_strict (k_steps)
  show BodyEnd _ _ _ _ _
  exact ⟨_, _, rfl, Fr.keep (by assumption), rfl, _, _, _, News.get (by assumption) (by k_mem)⟩
set_option maxHeartbeats 4000000 in
/-- Deeds.__init__ -/
theorem deeds_init {w : World} {d u : Nat} {s : Shared} {hb : Heap} {p : Program} {loose : List Str} {mean : ExcName → Option Value} {mg mb : Str → Option Value}
    (X : (hd.heap_1 w.params).In hb) (T : Top p loose mean mg mb hb) (hK : hb.StaysIn s.heap)
    (x dx : Addr) (v1 v2 v3 v4 : Value) (hx : s.heap.get? x = some (instObj 511 dx)) (hdx : s.heap.get? dx = some (dictOf [] 0)) (hf : hb.get? dx = none)
    (hD : d + 10 ≤ 900) :
    Fn w (AT d u) s 508 [.ref x, v1, v2, v3, v4] [dx] (fun h r => r = .none ∧ ∃ t1 t2 t3 t4 n, h.get? dx = some (dictOf [⟨PyData.keyHash w.params (Str.ofString "do"), .str (Str.ofString "do") t1, v1⟩, ⟨PyData.keyHash w.params (Str.ofString "test"), .str (Str.ofString "test") t2, v2⟩, ⟨PyData.keyHash w.params (Str.ofString "number"), .str (Str.ofString "number") t3, v3⟩, ⟨PyData.keyHash w.params (Str.ofString "put"), .str (Str.ofString "put") t4, v4⟩] n)) := by
  refine enter (K := hd.heap_1 w.params) (binds := [(Str.ofString "self", .ref x), (Str.ofString "do", v1), (Str.ofString "test", v2), (Str.ofString "number", v3), (Str.ofString "put", v4)]) [(dx, dictOf [] 0)] X T hK ?_ (by k_is) (by k_is) (by simp only [recursionLimit]; omega) (BindsTo.of_eq rfl) (locs rfl) ?_ rfl rfl rfl (by decide)
  · intro q hq; cases hq with
    | head => exact ⟨hdx, hf⟩
    | tail _ h => cases h
  intro g' L' h' Kg F' N' l1 X' T' S'
  k_lt l1
  have hxg : g'.get? x = some (instObj 511 dx) := Kg _ _ hx (nin1 (PySem.W.X.ne_objs _ _ _ _ hx hdx rfl))
  show wpAny _ _ _ _ _ _
  k_fold
  w_strict (k_steps)
  show BodyEnd _ _ _ _ _
  exact ⟨_, _, rfl, Fr.keep (by assumption), rfl, _, _, _, _, _, News.get (by assumption) (by k_mem)⟩
theorem code_use {w : World} {p : Program} {loose : List Str} {mean : ExcName → Option Value} {mg mb : Str → Option Value} {A : Around} {s : Shared} {g : Heap} {L : Addr} {m : Str → Option Value} {Q : Value → Shared → Prop} {E : Value → Shared → Prop} {v1 v2 : Value} {news : List (Addr × Obj)}
    (X : (hd.heap_1 w.params).In g) (T : Top p loose mean mg mb g) (hh : A.handled = none) (hdp : A.depth ≤ 800) (hu : A.units ≤ 4000) (F : Fr g L s.heap m) (N : News g L s.heap news)
    (h : ∀ x dx t1 t2 n h' tk, Fr g L h' m → News g L h' ((x, instObj 46 dx) :: (dx, dictOf [⟨PyData.keyHash w.params (Str.ofString "ops"), .str (Str.ofString "ops") t1, v1⟩, ⟨PyData.keyHash w.params (Str.ofString "begins"), .str (Str.ofString "begins") t2, v2⟩] n) :: news) → (∀ q ∈ news, q.1 < dx) → dx < x → Q (.ref x) { s with heap := h', toks := tk }) :
    wpAny (model PySem.Challenge.rw_pq0617_01.row.prog w) A (call (.ref 46) [v1, v2]) Q E s :=
  cls_use (d := 801) (u := 4001) X hh (Nat.add_le_add_right hdp 1) (Nat.add_le_add_right hu 1) F N (by k_is) (by k_is) (by k_is) (fun _ dx _ h v => v = .none ∧ ∃ t1 t2 n, h.get? dx = some (dictOf [⟨PyData.keyHash w.params (Str.ofString "ops"), .str (Str.ofString "ops") t1, v1⟩, ⟨PyData.keyHash w.params (Str.ofString "begins"), .str (Str.ofString "begins") t2, v2⟩] n)) (fun _ _ _ _ _ h => h.1)
    (fun x dx s' a _ c e f => code_init X T a x dx v1 v2 c e f (by omega))
    fun x dx s' h' tk F' k1 k2 hold l1 l2 _ ⟨_, t1, t2, n, hg⟩ => h x dx t1 t2 n h' tk F' (news_cons (k1 _ (.head _)) (news_cons (k2 _ hg (.inl rfl)) (news_all fun q hq => k1 q (.tail _ hq)))) l1 l2
theorem proc_use {w : World} {p : Program} {loose : List Str} {mean : ExcName → Option Value} {mg mb : Str → Option Value} {A : Around} {s : Shared} {g : Heap} {L : Addr} {m : Str → Option Value} {Q : Value → Shared → Prop} {E : Value → Shared → Prop} {v1 v2 : Value} {news : List (Addr × Obj)}
    (X : (hd.heap_1 w.params).In g) (T : Top p loose mean mg mb g) (hh : A.handled = none) (hdp : A.depth ≤ 800) (hu : A.units ≤ 4000) (F : Fr g L s.heap m) (N : News g L s.heap news)
    (h : ∀ x dx t1 t2 n h' tk, Fr g L h' m → News g L h' ((x, instObj 490 dx) :: (dx, dictOf [⟨PyData.keyHash w.params (Str.ofString "rows"), .str (Str.ofString "rows") t1, v1⟩, ⟨PyData.keyHash w.params (Str.ofString "using"), .str (Str.ofString "using") t2, v2⟩] n) :: news) → (∀ q ∈ news, q.1 < dx) → dx < x → Q (.ref x) { s with heap := h', toks := tk }) :
    wpAny (model PySem.Challenge.rw_pq0617_01.row.prog w) A (call (.ref 490) [v1, v2]) Q E s :=
  cls_use (d := 801) (u := 4001) X hh (Nat.add_le_add_right hdp 1) (Nat.add_le_add_right hu 1) F N (by k_is) (by k_is) (by k_is) (fun _ dx _ h v => v = .none ∧ ∃ t1 t2 n, h.get? dx = some (dictOf [⟨PyData.keyHash w.params (Str.ofString "rows"), .str (Str.ofString "rows") t1, v1⟩, ⟨PyData.keyHash w.params (Str.ofString "using"), .str (Str.ofString "using") t2, v2⟩] n)) (fun _ _ _ _ _ h => h.1)
    (fun x dx s' a _ c e f => proc_init X T a x dx v1 v2 c e f (by omega))
    fun x dx s' h' tk F' k1 k2 hold l1 l2 _ ⟨_, t1, t2, n, hg⟩ => h x dx t1 t2 n h' tk F' (news_cons (k1 _ (.head _)) (news_cons (k2 _ hg (.inl rfl)) (news_all fun q hq => k1 q (.tail _ hq)))) l1 l2
theorem deeds_use {w : World} {p : Program} {loose : List Str} {mean : ExcName → Option Value} {mg mb : Str → Option Value} {A : Around} {s : Shared} {g : Heap} {L : Addr} {m : Str → Option Value} {Q : Value → Shared → Prop} {E : Value → Shared → Prop} {v1 v2 v3 v4 : Value} {news : List (Addr × Obj)}
    (X : (hd.heap_1 w.params).In g) (T : Top p loose mean mg mb g) (hh : A.handled = none) (hdp : A.depth ≤ 800) (hu : A.units ≤ 4000) (F : Fr g L s.heap m) (N : News g L s.heap news)
    (h : ∀ x dx t1 t2 t3 t4 n h' tk, Fr g L h' m → News g L h' ((x, instObj 511 dx) :: (dx, dictOf [⟨PyData.keyHash w.params (Str.ofString "do"), .str (Str.ofString "do") t1, v1⟩, ⟨PyData.keyHash w.params (Str.ofString "test"), .str (Str.ofString "test") t2, v2⟩, ⟨PyData.keyHash w.params (Str.ofString "number"), .str (Str.ofString "number") t3, v3⟩, ⟨PyData.keyHash w.params (Str.ofString "put"), .str (Str.ofString "put") t4, v4⟩] n) :: news) → (∀ q ∈ news, q.1 < dx) → dx < x → Q (.ref x) { s with heap := h', toks := tk }) :
    wpAny (model PySem.Challenge.rw_pq0617_01.row.prog w) A (call (.ref 511) [v1, v2, v3, v4]) Q E s :=
  cls_use (d := 801) (u := 4001) X hh (Nat.add_le_add_right hdp 1) (Nat.add_le_add_right hu 1) F N (by k_is) (by k_is) (by k_is) (fun _ dx _ h v => v = .none ∧ ∃ t1 t2 t3 t4 n, h.get? dx = some (dictOf [⟨PyData.keyHash w.params (Str.ofString "do"), .str (Str.ofString "do") t1, v1⟩, ⟨PyData.keyHash w.params (Str.ofString "test"), .str (Str.ofString "test") t2, v2⟩, ⟨PyData.keyHash w.params (Str.ofString "number"), .str (Str.ofString "number") t3, v3⟩, ⟨PyData.keyHash w.params (Str.ofString "put"), .str (Str.ofString "put") t4, v4⟩] n)) (fun _ _ _ _ _ h => h.1)
    (fun x dx s' a _ c e f => deeds_init X T a x dx v1 v2 v3 v4 c e f (by omega))
    fun x dx s' h' tk F' k1 k2 hold l1 l2 _ ⟨_, t1, t2, t3, t4, n, hg⟩ => h x dx t1 t2 t3 t4 n h' tk F' (news_cons (k1 _ (.head _)) (news_cons (k2 _ hg (.inl rfl)) (news_all fun q hq => k1 q (.tail _ hq)))) l1 l2
end
theorem fresh_K2 : True ∧ True := by
  k_with_none
  (k_with "binaryOp Pow int int 1" => row_timed "fresh" (fail; (((with_reducible refine Mine.my_pow ?kb1 ?kb2 ?kb3 ?kb4 ?_); (case kb1 => decide); (case kb2 => decide); (case kb3 => first | decide | (with_reducible exact (Mine.pow3_bnd (PySem.W.fmod_lo _ (by decide)) (PySem.W.fmod_hi _ (by decide)) (by assumption) (by assumption)).1) | (with_reducible exact (Mine.pow5_bnd (by assumption) (by assumption)).1)); (case kb4 => first | decide | (with_reducible exact (Mine.pow3_bnd (PySem.W.fmod_lo _ (by decide)) (PySem.W.fmod_hi _ (by decide)) (by assumption) (by assumption)).2) | (with_reducible exact (Mine.pow5_bnd (by assumption) (by assumption)).2)); intro r' hr'))))
  (k_with "m:kroom" => row_timed "fresh" (fail; ((simp only [PyProof.Rows.depth_deeper, PySem.recursionLimit] at *; omega))))
  w_top off
  first | (walk1; done) | exact ⟨trivial, trivial⟩
section
theorem word_12 : True := by
  (k_with "m:inst" => row_timed "fresh" (fail; (exact inst_mix (by k_asm) (by k_asm) (by k_asm) (by k_mem))))
  (k_with "m:room" => row_timed "fresh" (fail; (((try simp only [depth_deeper, units_deeper, AT_depth, AT_units]); omega))))
  trivial
set_option maxHeartbeats 4000000 in
/-- Frame.__init__ -/
theorem frame_init {w : World} {d u : Nat} {s : Shared} {hb : Heap} {p : Program} {loose : List Str} {mean : ExcName → Option Value} {mg mb : Str → Option Value}
    (X : (hd.heap_1 w.params).In hb) (T : Top p loose mean mg mb hb) (hK : hb.StaysIn s.heap)
    (x dx : Addr) (v1 v2 : Value) (hx : s.heap.get? x = some (instObj 310 dx)) (hdx : s.heap.get? dx = some (dictOf [] 0)) (hf : hb.get? dx = none)
    (hD : d + 10 ≤ 900) :
    Fn w (AT d u) s 307 [.ref x, v1, v2] [dx] (fun _ r => r = .none) := by
  refine enter (K := hd.heap_1 w.params) (binds := [(Str.ofString "self", .ref x), (Str.ofString "last", v1), (Str.ofString "behind", v2)]) [(dx, dictOf [] 0)] X T hK ?_ (by k_is) (by k_is) (by simp only [recursionLimit]; omega) (BindsTo.of_eq rfl) (locs rfl) ?_ rfl rfl rfl (by decide)
  · intro q hq; cases hq with
    | head => exact ⟨hdx, hf⟩
    | tail _ h => cases h
  intro g' L' h' Kg F' N' l1 X' T' S'
  k_lt l1
  have hxg : g'.get? x = some (instObj 310 dx) := Kg _ _ hx (nin1 (PySem.W.X.ne_objs _ _ _ _ hx hdx rfl))
  show wpAny _ _ _ _ _ _
  k_fold
  w_strict (k_steps)
  show BodyEnd _ _ _ _ _
  exact ⟨_, _, rfl, Fr.keep (by assumption), rfl⟩
theorem frame_use {w : World} {p : Program} {loose : List Str} {mean : ExcName → Option Value} {mg mb : Str → Option Value} {A : Around} {s : Shared} {g : Heap} {L : Addr} {m : Str → Option Value} {Q : Value → Shared → Prop} {E : Value → Shared → Prop} {v1 v2 : Value} {news : List (Addr × Obj)}
    (X : (hd.heap_1 w.params).In g) (T : Top p loose mean mg mb g) (hh : A.handled = none) (hdp : A.depth ≤ 800) (hu : A.units ≤ 4000) (F : Fr g L s.heap m) (N : News g L s.heap news)
    (h : ∀ x h' tk, Fr g L h' m → News g L h' news → Q (.ref x) { s with heap := h', toks := tk }) :
    wpAny (model PySem.Challenge.rw_pq0617_01.row.prog w) A (call (.ref 310) [v1, v2]) Q E s :=
  cls_use (d := 801) (u := 4001) X hh (Nat.add_le_add_right hdp 1) (Nat.add_le_add_right hu 1) F N (by k_is) (by k_is) (by k_is) (fun _ _ _ _ v => v = .none) (fun _ _ _ _ _ h => h)
    (fun x dx s' a _ c e f => frame_init X T a x dx v1 v2 c e f (by omega))
    fun x dx s' h' tk F' k1 _ _ _ _ _ _ => h x h' tk F' (news_all fun q hq => k1 q (.tail _ hq))
theorem word_13 : True := by
  (k_with "call ref 1" => row_timed "fresh" (fail; (((show wpAny _ _ (call (Value.ref 310) [_, _]) _ _ _); refine' frame_use ?X ?T ?hh ?hd ?hu ?F ?N ?_; (case X => k_asm); (case T => k_asm); (case hh => rfl); (case hd => k_extra "m:room"); (case hu => k_extra "m:room"); (case F => k_asm); (case N => k_asm); intro x h' tk' F' N'; (try k_sweep); (try dsimp only)))))
  trivial
abbrev mcE (w : World) (t1 t2 t3 t4 t5 t6 t7 : Tok) (code deeds place stack frames key word : Value) : List DictEntry :=
  [⟨PyData.keyHash w.params (Str.ofString "code"), .str (Str.ofString "code") t1, code⟩, ⟨PyData.keyHash w.params (Str.ofString "deeds"), .str (Str.ofString "deeds") t2, deeds⟩,
   ⟨PyData.keyHash w.params (Str.ofString "place"), .str (Str.ofString "place") t3, place⟩, ⟨PyData.keyHash w.params (Str.ofString "stack"), .str (Str.ofString "stack") t4, stack⟩,
   ⟨PyData.keyHash w.params (Str.ofString "frames"), .str (Str.ofString "frames") t5, frames⟩, ⟨PyData.keyHash w.params (Str.ofString "key"), .str (Str.ofString "key") t6, key⟩,
   ⟨PyData.keyHash w.params (Str.ofString "word"), .str (Str.ofString "word") t7, word⟩]
set_option maxHeartbeats 4000000 in
/-- Machine.__init__ -/
theorem machine_init {w : World} {d u : Nat} {s : Shared} {hb : Heap} {p : Program} {loose : List Str} {mean : ExcName → Option Value} {mg mb : Str → Option Value}
    (X : (hd.heap_1 w.params).In hb) (T : Top p loose mean mg mb hb) (hK : hb.StaysIn s.heap)
    (x dx : Addr) (v1 v2 : Value) (hx : s.heap.get? x = some (instObj 338 dx)) (hdx : s.heap.get? dx = some (dictOf [] 0)) (hf : hb.get? dx = none)
    (hD : d + 10 ≤ 800) (hU : u + 100 ≤ 4000) :
    Fn w (AT d u) s 328 [.ref x, v1, v2] [dx] (fun h r => r = .none ∧ ∃ t1 t2 t3 t4 t5 t6 t7 t8 t9 t10 stack frames, h.get? dx = some (dictOf (mcE w t1 t2 t3 t4 t5 t6 t7 v1 v2 (.int 0 t8) stack frames (.str (Str.ofString "") t9) (.str (Str.ofString "") t10)) 7)) := by
  refine enter (K := hd.heap_1 w.params) (binds := [(Str.ofString "self", .ref x), (Str.ofString "code", v1), (Str.ofString "deeds", v2)]) [(dx, dictOf [] 0)] X T hK ?_ (by k_is) (by k_is) (by simp only [recursionLimit]; omega) (BindsTo.of_eq rfl) (locs rfl) ?_ rfl rfl rfl (by decide)
  · intro q hq; cases hq with
    | head => exact ⟨hdx, hf⟩
    | tail _ h => cases h
  intro g' L' h' Kg F' N' l1 X' T' S'
  k_lt l1
  have hxg : g'.get? x = some (instObj 338 dx) := Kg _ _ hx (nin1 (PySem.W.X.ne_objs _ _ _ _ hx hdx rfl))
  show wpAny _ _ _ _ _ _
  k_fold
  w_strict (k_steps)
  show BodyEnd _ _ _ _ _
  exact ⟨_, _, rfl, Fr.keep (by assumption), rfl, _, _, _, _, _, _, _, _, _, _, _, _, News.get (by assumption) (by k_mem)⟩
end
theorem fresh_K3 : True ∧ True := by
  k_with_none
  (k_with "binaryOp Pow int int 1" => row_timed "fresh" (fail; (((with_reducible refine Mine.my_pow ?kb1 ?kb2 ?kb3 ?kb4 ?_); (case kb1 => decide); (case kb2 => decide); (case kb3 => first | decide | (with_reducible exact (Mine.pow3_bnd (PySem.W.fmod_lo _ (by decide)) (PySem.W.fmod_hi _ (by decide)) (by assumption) (by assumption)).1) | (with_reducible exact (Mine.pow5_bnd (by assumption) (by assumption)).1)); (case kb4 => first | decide | (with_reducible exact (Mine.pow3_bnd (PySem.W.fmod_lo _ (by decide)) (PySem.W.fmod_hi _ (by decide)) (by assumption) (by assumption)).2) | (with_reducible exact (Mine.pow5_bnd (by assumption) (by assumption)).2)); intro r' hr'))))
  (k_with "m:kroom" => row_timed "fresh" (fail; ((simp only [PyProof.Rows.depth_deeper, PySem.recursionLimit] at *; omega))))
  w_top off
  first | (walk1; done) | exact ⟨trivial, trivial⟩
section
theorem word_14 : True := by
  (k_with "m:inst" => row_timed "fresh" (fail; (first | exact inst_mix (by k_asm) (by k_asm) (by k_asm) (by k_mem) | exact inst_base (by k_asm) (by k_asm) (by k_asm))))
  (k_with "m:room" => row_timed "fresh" (fail; (((try simp only [depth_deeper, units_deeper, AT_depth, AT_units]); omega))))
  (k_with "eval ListComp" => row_timed "fresh" (fail; ((k_dflt (refine' ListComp_H ?F ?cl ?cell ?kind ?names ?x ?_ ?hs; (case F => k_asm); (case cl => exact rfl); (case cell => decide); (case kind => exact rfl); (case names => decide); (case x => exact rfl); (case hs => exact fun _ => rfl)); try dsimp only))))
  trivial
set_option maxHeartbeats 4000000 in
/-- Draft.__init__ -/
theorem draft_init {w : World} {d u : Nat} {s : Shared} {hb : Heap} {p : Program} {loose : List Str} {mean : ExcName → Option Value} {mg mb : Str → Option Value}
    (X : (hd.heap_1 w.params).In hb) (T : Top p loose mean mg mb hb) (hK : hb.StaysIn s.heap)
    (x dx pp dp rl : Addr) (tr tu : Tok) (us : Value) (np nr : Nat) (hx : s.heap.get? x = some (instObj 117 dx)) (hdx : s.heap.get? dx = some (dictOf [] 0)) (hf : hb.get? dx = none)
    (hp : s.heap.get? pp = some (instObj 490 dp)) (hdp : s.heap.get? dp = some (dictOf [⟨PyData.keyHash w.params (Str.ofString "rows"), .str (Str.ofString "rows") tr, .ref rl⟩, ⟨PyData.keyHash w.params (Str.ofString "using"), .str (Str.ofString "using") tu, us⟩] np)) (hpd : dp ≠ dx)
    (hrl : s.heap.get? rl = some (W.listOf #[] nr))
    (hD : d + 10 ≤ 800) (hU : u + 100 ≤ 4000) :
    Fn w (AT d u) s 74 [.ref x, .ref pp] [dx] (fun h r => r = .none ∧ ∃ t1 t2 t3 t4 t5 t6 o pl hs n n1 n2 n3, h.get? dx = some (dictOf (drE w t1 t2 t3 t4 t5 t6 (.ref pp) o pl hs) n) ∧
      h.get? o = some (W.listOf #[] n1) ∧ h.get? pl = some (W.listOf #[] n2) ∧ h.get? hs = some (W.listOf #[] n3) ∧ s.heap.get? o = none ∧ s.heap.get? pl = none ∧ s.heap.get? hs = none ∧ o ≠ pl ∧ o ≠ hs ∧ pl ≠ hs) := by
  refine enterC (K := hd.heap_1 w.params) (binds := [(Str.ofString "self", .ref x), (Str.ofString "procedures", .ref pp)]) [(dx, dictOf [] 0)] X T hK ?_ (by k_is) (by k_is) (by simp only [recursionLimit]; omega) (BindsTo.of_eq rfl) rfl (by decide +kernel) ?_ rfl rfl rfl
  · intro q hq; cases hq with
    | head => exact ⟨hdx, hf⟩
    | tail _ h => cases h
  intro g' L' h' tk0 cells Kg F' N' Y' l1 X' T' S' Gs
  k_lt l1
  k_cells Y'
  simp only [List.cons_append, List.nil_append] at N'
  have hxg : g'.get? x = some (instObj 117 dx) := Kg _ _ hx (nin1 (PySem.W.X.ne_objs _ _ _ _ hx hdx rfl))
  have hpg : g'.get? pp = some (instObj 490 dp) := Kg _ _ hp (nin1 (PySem.W.X.ne_objs _ _ _ _ hp hdx rfl))
  have hdpg := Kg _ _ hdp (nin1 hpd)
  have hrg : g'.get? rl = some (W.listOf #[] nr) := Kg _ _ hrl (nin1 (PySem.W.X.ne_objs _ _ _ _ hrl hdx rfl))
  show wpAny _ _ _ _ _ _
  k_fold
  w_strict (k_steps)
  unfold Hold
  refine LCg.CompSrc.base rfl (by assumption) (by assumption) ⟨_, hrg, rfl, _, rfl⟩ (by decide) ?_
  intro g9
  refine LCg.CompRest.zero ?_
  intro D9 h9 tk9 F9 N9 off9
  simp only [LCg.Off1, and_true] at off9
  (try dsimp only)
  w_strict (k_steps)
  show BodyEnd _ _ _ _ _
  exact ⟨_, _, rfl, Fr.keep (by assumption), rfl, _, _, _, _, _, _, _, _, _, _, _, _, _, News.get (by assumption) (by k_mem), News.get (by assumption) (.tail _ (.tail _ (.head _))), News.get (by assumption) (.tail _ (.head _)), News.get (by assumption) (.head _),
    fresh_in Kg (by assumption) (.tail _ (.tail _ (.head _))) (nin1 (by k_ne)), fresh_in Kg (by assumption) (.tail _ (.head _)) (nin1 (by k_ne)), fresh_in Kg (by assumption) (.head _) (nin1 (by k_ne)), by k_ne, by k_ne, by k_ne⟩
end
theorem fresh_C11 : True ∧ True := by
  k_with_none
  (k_with "binaryOp Pow int int 1" => row_timed "fresh" (fail; (((with_reducible refine Mine.my_pow ?kb1 ?kb2 ?kb3 ?kb4 ?_); (case kb1 => decide); (case kb2 => decide); (case kb3 => first | decide | (with_reducible exact (Mine.pow3_bnd (PySem.W.fmod_lo _ (by decide)) (PySem.W.fmod_hi _ (by decide)) (by assumption) (by assumption)).1) | (with_reducible exact (Mine.pow5_bnd (by assumption) (by assumption)).1)); (case kb4 => first | decide | (with_reducible exact (Mine.pow3_bnd (PySem.W.fmod_lo _ (by decide)) (PySem.W.fmod_hi _ (by decide)) (by assumption) (by assumption)).2) | (with_reducible exact (Mine.pow5_bnd (by assumption) (by assumption)).2)); intro r' hr'))))
  (k_with "m:kroom" => row_timed "fresh" (fail; ((simp only [PyProof.Rows.depth_deeper, PySem.recursionLimit] at *; omega))))
  w_top off
  first | (walk1; done) | exact ⟨trivial, trivial⟩
section
theorem word_15 : True := by
  (k_with "m:inst" => row_timed "fresh" (fail; (exact inst_base (by k_asm) (by k_asm) (by k_asm))))
  (k_with "m:room" => row_timed "fresh" (fail; (((try simp only [depth_deeper, units_deeper, AT_depth, AT_units]); omega))))
  (k_with "eval ListComp" => row_timed "fresh" (fail; ((k_dflt (refine' ListComp_H ?F ?cl ?cell ?kind ?names ?x ?_ ?hs; (case F => k_asm); (case cl => exact rfl); (case cell => decide); (case kind => exact rfl); (case names => decide); (case x => exact rfl); (case hs => exact fun _ => rfl)); try dsimp only))))
  (k_with "m:all" => row_timed "fresh" (fail; (assumption)))
  (k_with "eval Lambda 1" => row_timed "fresh" (fail; (((k_dflt (refine' lam_new ?d0 ?ge ?cd ?F ?N ?T ?C ?U ?t ?n ?cl ?_; (case d0 => exact rfl); (case ge => exact rfl); (case cd => exact rfl); (case F => k_asm); (case N => k_asm); (case T => k_asm); (case C => kn_code); (case U => k_updF); (case t => kn_triples); (case n => kn_among); (case cl => exact rfl); k_whole)); intro f' c' oc' vs' t' ct' h' tk' F' N' d1' d2' l1 l2; (try dsimp only at N'); (try k_lt l1); (try k_lt2 l2)))))
  (k_with "eval Lambda 2" => row_timed "fresh" (fail; (((k_dflt (refine' lam_hit ?d0 ?ge ?cd ?F ?N ?T ?C ?mem ?t ?n ?cl ?_; (case d0 => exact rfl); (case ge => exact rfl); (case cd => exact rfl); (case F => k_asm); (case N => k_asm); (case T => k_asm); (case C => kn_code); (case mem => k_mem); (case t => kn_triples); (case n => kn_hit); (case cl => exact rfl); k_whole)); intro f' ct' h' tk' F' N' l1; (try dsimp only at N'); (try k_lt l1)))))
  trivial
def lamQ : Str := Str.ofString "Draft.finished" ++ Str.ofString ".<locals>." ++ Str.ofString "<lambda>"
/-- the table of a def's codes: none yet, or the one -/
def TabOk1 (line col : Int) (q : Str) (P : Addr → Obj → Prop) (tab : Array Value) : Prop :=
  tab = #[] ∨ ∃ c oc vs t, tab = #[rawInt line, rawInt col, .ref c] ∧ P c oc ∧ oc.data = .fields vs ∧ vs[1]? = some (.str q t)
theorem TabOk1.mono {line col : Int} {q : Str} {P P' : Addr → Obj → Prop} {tab : Array Value} (h : TabOk1 line col q P tab) (k : ∀ a o, P a o → P' a o) : TabOk1 line col q P' tab :=
  h.imp id fun ⟨c, oc, vs, t, a, b, d⟩ => ⟨c, oc, vs, t, a, k _ _ b, d⟩
/-- what the relabelled ops are -/
def OpsTo (pvs ovs : List Value) (ops : List Op) (P : Addr → Obj → Prop) (ys : List Value) : Prop :=
  ∀ (j : Nat) (y : Value), ys[j]? = some y → ∃ v op, ovs[j]? = some v ∧ ops[j]? = some op ∧ OpTo pvs P (fun r => r = v) y op
theorem OpsTo.mono {pvs ovs : List Value} {ops : List Op} {P P' : Addr → Obj → Prop} {ys : List Value} (h : OpsTo pvs ovs ops P ys) (k : ∀ a o, P a o → P' a o) : OpsTo pvs ovs ops P' ys := fun j y e =>
  let ⟨v, op, a, b, c⟩ := h j y e; ⟨v, op, a, b, c.mono k⟩
theorem OpsTo.snoc {pvs ovs : List Value} {ops : List Op} {P : Addr → Obj → Prop} {ys : List Value} {y v : Value} {op : Op} (h : OpsTo pvs ovs ops P ys) (hv : ovs[ys.length]? = some v) (ho : ops[ys.length]? = some op) (hy : OpTo pvs P (fun r => r = v) y op) : OpsTo pvs ovs ops P (ys ++ [y]) := fun j z e => by
  by_cases hj : j < ys.length
  · rw [List.getElem?_append_left hj] at e; exact h j z e
  · rw [List.getElem?_append_right (by omega)] at e
    have : j - ys.length = 0 := by
      have := (List.getElem?_eq_some_iff.mp e).1
      simp only [List.length_cons, List.length_nil] at this; omega
    rw [this] at e
    cases e
    have hj' : j = ys.length := by omega
    subst hj'
    exact ⟨v, op, hv, ho, hy⟩
theorem OpsAt.get {P : Addr → Obj → Prop} {vs : List Value} {os : List Op} (h : OpsAt P vs os) : ∀ {i : Nat} {v : Value}, vs[i]? = some v → ∃ op, os[i]? = some op ∧ OpAt P v op := by
  induction h with
  | nil => intro i v e; simp at e
  | cons h _ ih => intro i v e; cases i with
    | zero => cases e; exact ⟨_, rfl, h⟩
    | succ i => exact ih e
def FinJ (g : Heap) (cellA : Addr) (oc : Obj) (pvs ovs : List Value) (ops : List Op) (i : Nat) (ys : List Value) (news : List (Addr × Obj)) : Prop :=
  ∃ tab R, news = (cellA, oc) :: (111, tabObj tab) :: R ∧ (∀ q ∈ R, q.1 ≠ cellA ∧ q.1 ≠ 111) ∧ TabOk1 58 36 lamQ (fun b ob => (b, ob) ∈ R ∨ g.get? b = some ob) tab ∧ ys.length = i ∧ OpsTo pvs ovs ops (fun b ob => (b, ob) ∈ R) ys
theorem word_16 : True := by
  (k_with "subscriptTail 1" => row_timed "fresh" (fail; (((with_reducible show wpAny _ _ (subscriptTail _ _ (Value.ref _) (Value.int _ _)) _ _ _); k_dflt (refine' item_base ?F ?l ?a ?b ?x ?_; (case F => k_asm); (case l => k_asm); (case x => k_asm); (case a => k_asm); (case b => k_asm); k_whole)))))
  (k_with "eval Name" => row_timed "fresh" (fail; ((k_dflt (refine' nameX_FB ?F ?c ?m ?d ?_ ?a ?b; (case a => rfl); (case b => rfl); (case F => k_asm); (case c => rfl); (case m => k_asm); (case d => k_asm); k_whole)))))
  (k_with "call ref 1" => row_timed "fresh" (fail; (((show wpAny _ _ (call (Value.ref 46) [_, _]) _ _ _); refine' code_use ?X ?T ?hh ?hd ?hu ?F ?N ?_; (case X => k_asm); (case T => k_asm); (case hh => rfl); (case hd => k_extra "m:room"); (case hu => k_extra "m:room"); (case F => k_asm); (case N => k_asm); intro x dx t1 t2 n h' tk' F' N' l1 l2; (try k_lt l1); (try k_lt2 l2); (try k_sweep); (try dsimp only)))))
  trivial
def FinPost (w : World) (s : Shared) (pvs ovs : List Value) (ops : List Op) (h : Heap) (r : Value) : Prop :=
  ∃ cx cdx ot bt t1 t2 ys n n4 n5 tab', r = .ref cx ∧ h.get? cx = some (instObj 46 cdx) ∧
    h.get? cdx = some (dictOf [⟨PyData.keyHash w.params (Str.ofString "ops"), .str (Str.ofString "ops") t1, .ref ot⟩, ⟨PyData.keyHash w.params (Str.ofString "begins"), .str (Str.ofString "begins") t2, .ref bt⟩] n) ∧
    h.get? ot = some (tupOf ys.toArray n4) ∧ h.get? bt = some (tupOf #[] n5) ∧ s.heap.get? cx = none ∧ s.heap.get? cdx = none ∧ s.heap.get? ot = none ∧ s.heap.get? bt = none ∧
    ys.length = ovs.length ∧ OpsTo pvs ovs ops (fun b ob => h.get? b = some ob ∧ s.heap.get? b = none) ys ∧
    h.get? 111 = some (tabObj tab') ∧ TabOk1 58 36 lamQ (fun b ob => h.get? b = some ob ∧ (s.heap.get? b = none ∨ s.heap.get? b = some ob)) tab'
set_option maxHeartbeats 4000000 in
theorem finished_ok {w : World} {d u : Nat} {s : Shared} {hb : Heap} {p : Program} {loose : List Str} {mean : ExcName → Option Value} {mg mb : Str → Option Value}
    (X : (hd.heap_1 w.params).In hb) (T : Top p loose mean mg mb hb) (hK : hb.StaysIn s.heap) (hC : CodeHd hb 113 111)
    (x dx o pl hs : Addr) (t1 t2 t3 t4 t5 t6 : Tok) (pr : Value) (nd n1 n2 n3 : Nat) (ovs pvs : List Value) (ops : List Op) (tab : Array Value)
    (hx : s.heap.get? x = some (instObj 117 dx)) (hdx : s.heap.get? dx = some (dictOf (drE w t1 t2 t3 t4 t5 t6 pr o pl hs) nd))
    (ho : s.heap.get? o = some (W.listOf ovs.toArray n1)) (hpl : s.heap.get? pl = some (W.listOf pvs.toArray n2)) (hhs : s.heap.get? hs = some (W.listOf #[] n3))
    (htab : s.heap.get? 111 = some (tabObj tab)) (hf : hb.get? 111 = none) (ht : TabOk1 58 36 lamQ (fun b ob => s.heap.get? b = some ob) tab)
    (hops : OpsAt (fun b ob => s.heap.get? b = some ob) ovs ops) (hln : ovs.length ≤ 1000) (hlp : pvs.length ≤ 1000)
    (hl : ∀ op ∈ ops, ∀ l, (op = .jump l ∨ ∃ w, op = .test w l) → 0 ≤ l ∧ ∃ v', pvs[l.toNat]? = some v')
    (hD : d + 20 ≤ 800) (hU : u + 200 ≤ 4000) :
    Fn w (AT d u) s 114 [.ref x] [111] (FinPost w s pvs ovs ops) := by
  refine enterC (K := hd.heap_1 w.params) (binds := [(Str.ofString "self", .ref x)]) [(111, tabObj tab)] X T hK ?_ (by k_is) (by k_is) (by simp only [recursionLimit]; omega) (BindsTo.of_eq rfl) rfl (by decide +kernel) ?_ rfl rfl rfl
  · intro q hq; cases hq with
    | head => exact ⟨htab, hf⟩
    | tail _ h => cases h
  intro g' L' h' tk0 cells Kg F' N' Y' l1 X' T' S' Gs
  k_lt l1
  k_cells Y'
  rename_i oc hoc
  simp only [List.cons_append, List.nil_append] at N'
  have hxg : g'.get? x = some (instObj 117 dx) := Kg _ _ hx (nin1 (PySem.W.X.ne_objs _ _ _ _ hx htab rfl))
  have hdg : g'.get? dx = some (dictOf (drE w t1 t2 t3 t4 t5 t6 pr o pl hs) nd) := Kg _ _ hdx (nin1 (PySem.W.X.ne_objs _ _ _ _ hdx htab rfl))
  have hog : g'.get? o = some (W.listOf ovs.toArray n1) := Kg _ _ ho (nin1 (PySem.W.X.ne_objs _ _ _ _ ho htab rfl))
  have hpg : g'.get? pl = some (W.listOf pvs.toArray n2) := Kg _ _ hpl (nin1 (PySem.W.X.ne_objs _ _ _ _ hpl htab rfl))
  have hhg : g'.get? hs = some (W.listOf #[] n3) := Kg _ _ hhs (nin1 (PySem.W.X.ne_objs _ _ _ _ hhs htab rfl))
  have htg : TabOk1 58 36 lamQ (fun b ob => (b, ob) ∈ ([] : List (Addr × Obj)) ∨ g'.get? b = some ob) tab := by
    refine ht.imp id ?_
    rintro ⟨c, oc, vs, t, a, b, d, e⟩
    exact ⟨c, oc, vs, t, a, .inr (Kg _ _ b (nin1 fun q => by rw [q, htab] at b; cases b; cases d; subst a; simp [rawInt] at e)), d, e⟩
  have hopg : OpsAt (fun b ob => g'.get? b = some ob) ovs ops := hops.monoT fun a vs n e => Kg _ _ e (nin1 (PySem.W.X.ne_objs _ _ _ _ e htab rfl))
  have hCg : CodeHd g' 113 111 := hC.keeps S'
  show wpAny _ _ _ _ _ _
  k_fold
  w_strict (k_steps)
  unfold Hold
  refine LCg.CompSrc.base rfl (by assumption) (by assumption) ⟨_, hog, rfl, _, rfl⟩ (by simp only [List.size_toArray, sizeLine]; omega) ?_
  intro g9
  refine compRest_of (FinJ g' (L' + 1) oc pvs ovs ops) ?_ ?_ _ 0 (Nat.zero_add _) _ _ ⟨tab, [], rfl, (fun _ h => nomatch h), htg, rfl, fun j y h => by simp at h⟩
  · intro i v ys news I oI C oC D m₂ h tk E' hi hp hj hn hm F9 N9 off9 ne9
    obtain ⟨tab, R, rfl, hoff, htb, hlen, hys⟩ := hj
    obtain ⟨⟨a1, a2, a3⟩, ⟨b1, b2, b3⟩, offR⟩ := off9
    obtain ⟨n1', n2', n3'⟩ := ne9
    have hoff1 : ∀ q ∈ R, q.1 ≠ L' + 1 := fun q hq => (hoff q hq).1
    have hoff2 : ∀ q ∈ R, q.1 ≠ 111 := fun q hq => (hoff q hq).2
    have hp' : ovs[ys.length]? = some v := by rw [hlen]; simpa using hp
    obtain ⟨op, hop, hoa⟩ := hopg.get hp'
    clear F' N'
    rcases htb with rfl | ⟨c1, oc1, vs1, tq, rfl, hc1, e1, e2⟩
    · show wpAny _ _ _ _ _ _
      k_fold
      w_strict (k_steps)
      rename_i f1 c1 oc1 vs1 tq ct1 h1 tk1 F1 N1 e1 e2 l1' l2'
      have Ch : ChangeOk w { s with heap := h1, toks := tk1 } f1 pvs := by
        refine ⟨⟨_, _, _, _, News.get N1 (.head _)⟩, fun d' u' s' hd' hu' hk' l t v hl0 hv => ?_⟩
        refine enterL (K := hd.heap_1 w.params) (binds := [(Str.ofString "label", .int l t)]) [] X' T' (fun b o e => hk' _ _ (F1.keep b o e)) (fun _ h => nomatch h) (hk' _ _ (News.get N1 (.head _))) ⟨_, _, _, _, rfl, hk' _ _ (News.get N1 (.tail _ (.head _))), e1, e2⟩ (by simp only [recursionLimit]; omega) rfl (locs rfl) ?_ rfl rfl rfl (by decide)
        intro g2 L2 h2 Kg2 F2 N2 l2 X2 T2 S2
        have Kg2' : ∀ a o, g'.get? a = some o → g2.get? a = some o := fun a o e => Kg2 a o (hk' _ _ (F1.keep _ _ e)) (fun h => nomatch h)
        have hxg2 := Kg2' _ _ hxg
        have hdg2 := Kg2' _ _ hdg
        have hpg2 := Kg2' _ _ hpg
        have hcg2 : g2.get? (L' + 1) = some oc := Kg2 _ _ (hk' _ _ (News.get N1 (by k_mem))) (fun h => nomatch h)
        have hlt : l < 2 ^ 63 := by
          have := (List.getElem?_eq_some_iff.mp hv).1
          omega
        show wpAny _ _ _ _ _ _
        k_fold
        w_strict (k_steps)
        show BodyEnd _ _ _ _ _
        exact ⟨_, _, rfl, Fr.keep (by assumption), rfl⟩
      refine relab_use X' T' rfl (by k_extra "m:room") (by k_extra "m:room") F1 N1 (hoa.mono fun b ob e => F1.keep _ _ e) Ch (hl op (List.mem_of_getElem? hop)) ?_
      intro r R1 h2 tk2 F2 N2 hR1 hto
      (try dsimp only)
      refine LCg.CompEnd.intro F2 N2 ((L' + 1, oc) :: (111, tabObj #[rawInt 58, rawInt 36, .ref c1]) :: (R1 ++ (c1, oc1) :: R)) ?_ (LCg.Off3.of fun q hq => ?_) (.inl ⟨_, hog, rfl, _, rfl⟩) ⟨_, R1 ++ (c1, oc1) :: R, rfl, fun q hq => ?_, .inr ⟨c1, oc1, vs1, tq, rfl, .inl (by simp), e1, e2⟩, by simp [hlen], hys.mono (fun b ob h => by simp [h]) |>.snoc hp' hop (hto.mono fun b ob h => by simp [h])⟩
      · intro q hq
        simp only [List.mem_cons, List.mem_append] at hq ⊢
        rcases hq with rfl | rfl | rfl | rfl | rfl | hq | rfl | hq <;> simp_all
      · simp only [List.mem_cons, List.mem_append] at hq
        rcases hq with rfl | rfl | hq | rfl | hq
        · exact ⟨a1, a2, a3⟩
        · exact ⟨b1, b2, b3⟩
        · exact ⟨Ne.symm (hR1 q hq _ (.tail _ (.tail _ (.head _)))), Ne.symm (hR1 q hq _ (.tail _ (.tail _ (.tail _ (.head _))))), Ne.symm (hR1 q hq _ (.tail _ (.tail _ (.tail _ (.tail _ (.head _))))))⟩
        · exact ⟨neN (by dsimp only; omega), neN (by dsimp only; omega), neN (by dsimp only; omega)⟩
        · exact offR.mem q hq
      · simp only [List.mem_cons, List.mem_append] at hq
        rcases hq with hq | rfl | hq
        · exact ⟨Ne.symm (hR1 q hq (L' + 1, oc) (by simp)), Ne.symm (hR1 q hq (111, tabObj #[rawInt 58, rawInt 36, .ref c1]) (by simp))⟩
        · exact ⟨neN (by dsimp only; omega), neN (by dsimp only; omega)⟩
        · exact hoff q hq
    · have hc1m : ∀ (h : Heap) (l : List (Addr × Obj)) (mm : Str → Option Value), Fr g' L' h mm → News g' L' h l → (∀ q ∈ R, q ∈ l) → h.get? c1 = some oc1 := fun h l mm F N hs => hc1.elim (fun hm => News.get N (hs _ hm)) fun e => F.keep _ _ e
      show wpAny _ _ _ _ _ _
      k_fold
      w_strict (k_steps)
      rename_i f1 ct1 h1 tk1 F1 N1 l1'
      have hcr := hc1m h1 _ _ F1 N1 (fun q hq => by simp [hq])
      have Ch : ChangeOk w { s with heap := h1, toks := tk1 } f1 pvs := by
        refine ⟨⟨_, _, _, _, News.get N1 (.head _)⟩, fun d' u' s' hd' hu' hk' l t v hl0 hv => ?_⟩
        refine enterL (K := hd.heap_1 w.params) (binds := [(Str.ofString "label", .int l t)]) [] X' T' (fun b o e => hk' _ _ (F1.keep b o e)) (fun _ h => nomatch h) (hk' _ _ (News.get N1 (.head _))) ⟨_, _, _, _, rfl, hk' _ _ hcr, e1, e2⟩ (by simp only [recursionLimit]; omega) rfl (locs rfl) ?_ rfl rfl rfl (by decide)
        intro g2 L2 h2 Kg2 F2 N2 l2 X2 T2 S2
        have Kg2' : ∀ a o, g'.get? a = some o → g2.get? a = some o := fun a o e => Kg2 a o (hk' _ _ (F1.keep _ _ e)) (fun h => nomatch h)
        have hxg2 := Kg2' _ _ hxg
        have hdg2 := Kg2' _ _ hdg
        have hpg2 := Kg2' _ _ hpg
        have hcg2 : g2.get? (L' + 1) = some oc := Kg2 _ _ (hk' _ _ (News.get N1 (by k_mem))) (fun h => nomatch h)
        have hlt : l < 2 ^ 63 := by
          have := (List.getElem?_eq_some_iff.mp hv).1
          omega
        show wpAny _ _ _ _ _ _
        k_fold
        w_strict (k_steps)
        show BodyEnd _ _ _ _ _
        exact ⟨_, _, rfl, Fr.keep (by assumption), rfl⟩
      refine relab_use X' T' rfl (by k_extra "m:room") (by k_extra "m:room") F1 N1 (hoa.mono fun b ob e => F1.keep _ _ e) Ch (hl op (List.mem_of_getElem? hop)) ?_
      intro r R1 h2 tk2 F2 N2 hR1 hto
      (try dsimp only)
      refine LCg.CompEnd.intro F2 N2 ((L' + 1, oc) :: (111, tabObj #[rawInt 58, rawInt 36, .ref c1]) :: (R1 ++ R)) ?_ (LCg.Off3.of fun q hq => ?_) (.inl ⟨_, hog, rfl, _, rfl⟩) ⟨_, R1 ++ R, rfl, fun q hq => ?_, .inr ⟨c1, oc1, vs1, tq, rfl, hc1.imp (fun h => List.mem_append.mpr (.inr h)) id, e1, e2⟩, by simp [hlen], hys.mono (fun b ob h => by simp [h]) |>.snoc hp' hop (hto.mono fun b ob h => by simp [h])⟩
      · intro q hq
        simp only [List.mem_cons, List.mem_append] at hq ⊢
        rcases hq with rfl | rfl | rfl | rfl | rfl | hq | hq <;> simp_all
      · simp only [List.mem_cons, List.mem_append] at hq
        rcases hq with rfl | rfl | hq | hq
        · exact ⟨a1, a2, a3⟩
        · exact ⟨b1, b2, b3⟩
        · exact ⟨Ne.symm (hR1 q hq _ (.tail _ (.head _))), Ne.symm (hR1 q hq _ (.tail _ (.tail _ (.head _)))), Ne.symm (hR1 q hq _ (.tail _ (.tail _ (.tail _ (.head _)))))⟩
        · exact offR.mem q hq
      · simp only [List.mem_append] at hq
        rcases hq with hq | hq
        · exact ⟨Ne.symm (hR1 q hq (L' + 1, oc) (by simp)), Ne.symm (hR1 q hq (111, tabObj #[rawInt 58, rawInt 36, .ref c1]) (by simp))⟩
        · exact hoff q hq
  · rintro ys news ⟨tab2, R, rfl, hoff, htb, hlen, hys⟩
    intro D h9 tk9 F9 N9 off9
    clear F' N'
    simp only [LCg.Off1] at off9
    obtain ⟨o1, o2, offR⟩ := off9
    (try dsimp only)
    w_strict (k_steps)
    unfold Hold
    refine LCg.CompSrc.base rfl (by assumption) (by assumption) ⟨_, hhg, rfl, _, rfl⟩ (by decide) ?_
    intro g9
    refine LCg.CompRest.zero ?_
    intro D8 h8 tk8 F8 N8 off8
    (try dsimp only)
    w_strict (k_steps)
    show BodyEnd _ _ _ _ _
    refine ⟨_, _, rfl, Fr.keep (by assumption), _, _, _, _, _, _, ys, _, _, _, tab2, rfl, News.get (by assumption) (by k_mem), News.get (by assumption) (by k_mem), News.get (by assumption) (.tail _ (.tail _ (.tail _ (.tail _ (.head _))))), News.get (by assumption) (.tail _ (.tail _ (.head _))),
      fresh_in Kg (by assumption) (.head _) (nin1 (by k_ne)), fresh_in Kg (by assumption) (.tail _ (.head _)) (nin1 (by k_ne)), fresh_in Kg (by assumption) (.tail _ (.tail _ (.tail _ (.tail _ (.head _))))) (nin1 (PySem.W.X.ne_objs _ _ _ _ (News.get (by assumption) (.tail _ (.tail _ (.tail _ (.tail _ (.head _)))))) (News.get (by assumption) (.tail _ (.tail _ (.tail _ (.tail _ (.tail _ (.tail _ (.tail _ (.head _))))))))) rfl)), fresh_in Kg (by assumption) (.tail _ (.tail _ (.head _))) (nin1 (by k_ne)),
      by simpa using hlen, hys.mono fun b ob hb => ?_, News.get (by assumption) (by k_mem), htb.mono fun b ob hb => ?_⟩
    · have hb' : ∀ (l : List (Addr × Obj)), (∀ q ∈ R, q ∈ l) → (b, ob) ∈ l := fun l hs => hs _ hb
      exact ⟨News.get (by assumption) (hb' _ (fun q hq => by simp only [List.mem_cons]; simp [hq])), fresh_in Kg (by assumption) (hb' _ (fun q hq => by simp only [List.mem_cons]; simp [hq])) (nin1 (hoff _ hb).2)⟩
    · rcases hb with hb | hb
      · have hb' : ∀ (l : List (Addr × Obj)), (∀ q ∈ R, q ∈ l) → (b, ob) ∈ l := fun l hs => hs _ hb
        exact ⟨News.get (by assumption) (hb' _ (fun q hq => by simp only [List.mem_cons]; simp [hq])), .inl (fresh_in Kg (by assumption) (hb' _ (fun q hq => by simp only [List.mem_cons]; simp [hq])) (nin1 (hoff _ hb).2))⟩
      · exact ⟨Fr.keep (by assumption) _ _ hb, .inr (Gs _ _ hb)⟩
end
theorem fresh_D1 : True ∧ True := by
  k_with_none
  (k_with "binaryOp Pow int int 1" => row_timed "fresh" (fail; (((with_reducible refine Mine.my_pow ?kb1 ?kb2 ?kb3 ?kb4 ?_); (case kb1 => decide); (case kb2 => decide); (case kb3 => first | decide | (with_reducible exact (Mine.pow3_bnd (PySem.W.fmod_lo _ (by decide)) (PySem.W.fmod_hi _ (by decide)) (by assumption) (by assumption)).1) | (with_reducible exact (Mine.pow5_bnd (by assumption) (by assumption)).1)); (case kb4 => first | decide | (with_reducible exact (Mine.pow3_bnd (PySem.W.fmod_lo _ (by decide)) (PySem.W.fmod_hi _ (by decide)) (by assumption) (by assumption)).2) | (with_reducible exact (Mine.pow5_bnd (by assumption) (by assumption)).2)); intro r' hr'))))
  (k_with "m:kroom" => row_timed "fresh" (fail; ((simp only [PyProof.Rows.depth_deeper, PySem.recursionLimit] at *; omega))))
  w_top off
  first | (walk1; done) | exact ⟨trivial, trivial⟩
section
/-! the plain law: no program in sight -/
def Cn.leaves : Cn → List Value
  | .leaf v _ => [v]
  | .neg c => c.leaves
  | .con _ a b => a.leaves ++ b.leaves
def Cn.truth (tr : Value → Bool) : Cn → Bool
  | .leaf v _ => tr v
  | .neg c => !c.truth tr
  | .con o a b => if o then a.truth tr || b.truth tr else a.truth tr && b.truth tr
def Op.re (F : List Int) : Op → Op
  | .doo i => .doo i
  | .stop x => .stop x
  | .test v l => .test v (F.getD l.toNat 0)
  | .jump l => .jump (F.getD l.toNat 0)
def Op.lab : Op → Option Int
  | .test _ l => some l
  | .jump l => some l
  | _ => none
inductive LI where
  | num (i : Int)
  | cnd (v : Value)
def runA (fops : List Op) (tr : Value → Bool) : Nat → Nat → List LI → Option (Str × List LI)
  | 0, _, _ => none
  | f + 1, p, log => match fops[p]? with
    | none => none
    | some (.doo i) => runA fops tr f (p + 1) (log ++ [.num i])
    | some (.test v l) => runA fops tr f (if tr v then p + 1 else l.toNat) (log ++ [.cnd v])
    | some (.jump l) => runA fops tr f l.toNat log
    | some (.stop x) => some (x, log)
theorem emit_pre : ∀ (c : Cn) (w : Bool) (l : Int) (n : Nat) (ps : List Int) (j : Nat), j < ps.length → (c.emit w l n ps).2[j]? = ps[j]?
  | .leaf v _, true, l, n, ps, j, h => by
    simp only [Cn.emit]
    rw [List.getElem?_set_ne (by omega), List.getElem?_append_left h]
  | .leaf v _, false, l, n, ps, j, h => rfl
  | .neg c, w, l, n, ps, j, h => emit_pre c (!w) l n ps j h
  | .con o a b, w, l, n, ps, j, h => by
    unfold Cn.emit
    split
    · have h1 := emit_len a w l n ps
      rw [emit_pre b w l _ _ j (by omega), emit_pre a w l n ps j h]
    · have h1 := emit_len a (!w) (ps.length : Nat) n (ps ++ [-1])
      simp only [List.length_append, List.length_cons, List.length_nil] at h1
      dsimp only
      rw [List.getElem?_set_ne (by omega), emit_pre b w l _ _ j (by omega), emit_pre a (!w) _ n (ps ++ [-1]) j (by simp; omega), List.getElem?_append_left h]
theorem emit_lab : ∀ (c : Cn) (w : Bool) (l : Int) (n : Nat) (ps : List Int) (op : Op), op ∈ (c.emit w l n ps).1 → ∀ l', op.lab = some l' → l' = l ∨ ((ps.length : Int) ≤ l' ∧ l' < ((c.emit w l n ps).2.length : Nat))
  | .leaf v _, true, l, n, ps, op, ho, l', hl => by
    simp only [Cn.emit, List.mem_cons, List.mem_nil_iff, or_false, List.length_set, List.length_append, List.length_cons, List.length_nil] at ho ⊢
    rcases ho with rfl | rfl
    · simp only [Op.lab, Option.some.injEq] at hl; right; omega
    · simp only [Op.lab, Option.some.injEq] at hl; left; omega
  | .leaf v _, false, l, n, ps, op, ho, l', hl => by
    simp only [Cn.emit, List.mem_cons, List.mem_nil_iff, or_false] at ho
    subst ho
    simp only [Op.lab, Option.some.injEq] at hl; left; omega
  | .neg c, w, l, n, ps, op, ho, l', hl => emit_lab c (!w) l n ps op ho l' hl
  | .con o a b, w, l, n, ps, op, ho, l', hl => by
    unfold Cn.emit at ho ⊢
    split at ho
    · rename_i hw
      rw [if_pos hw]
      have h1 := emit_len a w l n ps
      have h2 := emit_len b w l (n + (a.emit w l n ps).1.length) (a.emit w l n ps).2
      rcases List.mem_append.mp ho with ho | ho
      · rcases emit_lab a w l n ps op ho l' hl with h | h
        · exact .inl h
        · right; dsimp only; omega
      · rcases emit_lab b w l _ _ op ho l' hl with h | h
        · exact .inl h
        · right; dsimp only; omega
    · rename_i hw
      rw [if_neg hw]
      have h1 := emit_len a (!w) (ps.length : Nat) n (ps ++ [-1])
      have h2 := emit_len b w l (n + (a.emit (!w) (ps.length : Nat) n (ps ++ [-1])).1.length) (a.emit (!w) (ps.length : Nat) n (ps ++ [-1])).2
      dsimp only at ho ⊢
      simp only [List.length_append, List.length_cons, List.length_nil, List.length_set] at h1 h2 ⊢
      rcases List.mem_append.mp ho with ho | ho
      · rcases emit_lab a (!w) _ n _ op ho l' hl with h | h
        · right; omega
        · right; simp only [List.length_append, List.length_cons, List.length_nil] at h; omega
      · rcases emit_lab b w l _ _ op ho l' hl with h | h
        · exact .inl h
        · right; omega
/-- what is tested, in its order -/
def Op.tested : Op → Option Value
  | .test v _ => some v
  | _ => none
theorem emit_tests : ∀ (c : Cn) (w : Bool) (l : Int) (n : Nat) (ps : List Int), (c.emit w l n ps).1.filterMap Op.tested = c.leaves
  | .leaf v _, true, l, n, ps => rfl
  | .leaf v _, false, l, n, ps => rfl
  | .neg c, w, l, n, ps => emit_tests c (!w) l n ps
  | .con o a b, w, l, n, ps => by
    unfold Cn.emit
    split
    · dsimp only; rw [List.filterMap_append, emit_tests a, emit_tests b]; rfl
    · dsimp only; rw [List.filterMap_append, emit_tests a, emit_tests b]; rfl
/-- tests and jumps alone -/
theorem emit_kinds : ∀ (c : Cn) (w : Bool) (l : Int) (n : Nat) (ps : List Int) (op : Op), op ∈ (c.emit w l n ps).1 → (∃ l', op.lab = some l')
  | .leaf v _, true, l, n, ps, op, ho => by
    simp only [Cn.emit, List.mem_cons, List.mem_nil_iff, or_false] at ho
    rcases ho with rfl | rfl <;> exact ⟨_, rfl⟩
  | .leaf v _, false, l, n, ps, op, ho => by
    simp only [Cn.emit, List.mem_cons, List.mem_nil_iff, or_false] at ho
    subst ho; exact ⟨_, rfl⟩
  | .neg c, w, l, n, ps, op, ho => emit_kinds c (!w) l n ps op ho
  | .con o a b, w, l, n, ps, op, ho => by
    unfold Cn.emit at ho
    split at ho
    · exact (List.mem_append.mp ho).elim (emit_kinds a _ _ _ _ op) (emit_kinds b _ _ _ _ op)
    · exact (List.mem_append.mp ho).elim (emit_kinds a _ _ _ _ op) (emit_kinds b _ _ _ _ op)
theorem emit_run (fops : List Op) (tr : Value → Bool) (F : List Int) : ∀ (c : Cn) (w : Bool) (l : Int) (n : Nat) (ps : List Int),
    (∀ i op, (c.emit w l n ps).1[i]? = some op → fops[n + i]? = some (op.re F)) → (∀ j, ps.length ≤ j → j < (c.emit w l n ps).2.length → F[j]? = (c.emit w l n ps).2[j]?) →
    ∃ (lg : List Value) (k : Nat), lg.Sublist c.leaves ∧ k ≤ (c.emit w l n ps).1.length ∧ ∀ f log, runA fops tr (f + k) n log =
      runA fops tr f (if c.truth tr = w then (F.getD l.toNat 0).toNat else n + (c.emit w l n ps).1.length) (log ++ lg.map LI.cnd)
  | .leaf v kk, true, l, n, ps, hs, hp => by
    have h0 := hs 0 (.test v (ps.length : Nat)) rfl
    have h1 := hs 1 (.jump l) rfl
    have hF : F.getD ps.length 0 = ((n + 2 : Nat) : Int) := by
      have := hp ps.length (Nat.le_refl _) (by simp [Cn.emit])
      rw [List.getD_eq_getElem?_getD, this]
      simp [Cn.emit]
    simp only [Op.re, Nat.add_zero, Int.toNat_natCast, hF] at h0 h1
    by_cases ht : tr v = true
    · refine ⟨[v], 2, List.Sublist.refl _, by simp [Cn.emit], fun f log => ?_⟩
      rw [show f + 2 = (f + 1) + 1 from rfl, runA, h0]
      dsimp only
      rw [if_pos ht, runA, h1]
      dsimp only
      rw [if_pos (show (Cn.leaf v kk).truth tr = true from ht)]; rfl
    · refine ⟨[v], 1, List.Sublist.refl _, by simp [Cn.emit], fun f log => ?_⟩
      rw [runA, h0]
      dsimp only
      rw [if_neg ht, if_neg (show ¬ (Cn.leaf v kk).truth tr = true from ht)]; rfl
  | .leaf v kk, false, l, n, ps, hs, hp => by
    have h0 := hs 0 (.test v l) rfl
    simp only [Op.re, Nat.add_zero] at h0
    refine ⟨[v], 1, List.Sublist.refl _, by simp [Cn.emit], fun f log => ?_⟩
    rw [runA, h0]
    dsimp only
    by_cases ht : tr v = true
    · rw [if_pos ht, if_neg (show ¬ (Cn.leaf v kk).truth tr = false from by simp [Cn.truth, ht])]; rfl
    · rw [if_neg ht, if_pos (show (Cn.leaf v kk).truth tr = false from by simpa [Cn.truth] using ht)]; rfl
  | .neg c, w, l, n, ps, hs, hp => by
    obtain ⟨lg, k, h1, h2, h3⟩ := emit_run fops tr F c (!w) l n ps hs hp
    refine ⟨lg, k, h1, h2, fun f log => ?_⟩
    rw [h3]
    have : (c.truth tr = !w) = ((Cn.neg c).truth tr = w) := by
      simp only [Cn.truth]
      cases c.truth tr <;> cases w <;> simp
    simp only [this]; rfl
  | .con o a b, w, l, n, ps, hs, hp => by
    by_cases hw : (o == w) = true
    · have e : (Cn.con o a b).emit w l n ps = ((a.emit w l n ps).1 ++ (b.emit w l (n + (a.emit w l n ps).1.length) (a.emit w l n ps).2).1, (b.emit w l (n + (a.emit w l n ps).1.length) (a.emit w l n ps).2).2) := by rw [Cn.emit, if_pos hw]
      rw [e] at hs hp ⊢
      generalize hA : a.emit w l n ps = A at *
      generalize hB : b.emit w l (n + A.1.length) A.2 = B at *
      have hla := emit_len a w l n ps
      have hlb := emit_len b w l (n + A.1.length) A.2
      rw [hA] at hla; rw [hB] at hlb
      obtain ⟨la, ka, a1, a2, a3⟩ := emit_run fops tr F a w l n ps (fun i op h => hs i op (by rw [hA] at h; have := (List.getElem?_eq_some_iff.mp h).1; dsimp only; rw [List.getElem?_append_left this]; exact h))
        (fun j h1 h2 => by
          rw [hA] at h2 ⊢
          have q := emit_pre b w l (n + A.1.length) A.2 j h2
          rw [hB] at q
          rw [hp j h1 (by dsimp only; omega)]; exact q)
      obtain ⟨lb, kb, b1, b2, b3⟩ := emit_run fops tr F b w l (n + A.1.length) A.2 (fun i op h => by
          rw [hB] at h
          have := hs (A.1.length + i) op (by dsimp only; rw [List.getElem?_append_right (by omega), Nat.add_sub_cancel_left]; exact h)
          rw [Nat.add_assoc]; exact this)
        (fun j h1 h2 => by
          rw [hB] at h2 ⊢
          exact hp j (by omega) h2)
      rw [hA] at a2 a3; rw [hB] at b2 b3
      have ow : o = w := by simpa using hw
      subst ow
      by_cases ha : a.truth tr = o
      · refine ⟨la, ka, a1.trans (List.sublist_append_left _ _), by simp only [List.length_append]; omega, fun f log => ?_⟩
        rw [a3, if_pos ha, if_pos (by simp only [Cn.truth, ha]; cases o <;> simp)]
      · refine ⟨la ++ lb, kb + ka, List.Sublist.append a1 b1, by simp only [List.length_append]; omega, fun f log => ?_⟩
        rw [← Nat.add_assoc, a3, if_neg ha, b3]
        have : (b.truth tr = o) = ((Cn.con o a b).truth tr = o) := by
          simp only [Cn.truth]
          cases o <;> simp at ha <;> simp [ha]
        simp only [this, List.length_append, List.map_append, List.append_assoc, Nat.add_assoc]
    · have hwf : (o == w) = false := by simpa using hw
      have e := show (Cn.con o a b).emit w l n ps = ((a.emit (!w) (ps.length : Nat) n (ps ++ [-1])).1 ++ (b.emit w l (n + (a.emit (!w) (ps.length : Nat) n (ps ++ [-1])).1.length) (a.emit (!w) (ps.length : Nat) n (ps ++ [-1])).2).1,
        (b.emit w l (n + (a.emit (!w) (ps.length : Nat) n (ps ++ [-1])).1.length) (a.emit (!w) (ps.length : Nat) n (ps ++ [-1])).2).2.set ps.length ((n + (a.emit (!w) (ps.length : Nat) n (ps ++ [-1])).1.length + (b.emit w l (n + (a.emit (!w) (ps.length : Nat) n (ps ++ [-1])).1.length) (a.emit (!w) (ps.length : Nat) n (ps ++ [-1])).2).1.length : Nat) : Int)) from by rw [Cn.emit, if_neg hw]
      rw [e] at hs hp ⊢
      have hla := emit_len a (!w) (ps.length : Nat) n (ps ++ [-1])
      have hlb := emit_len b w l (n + (a.emit (!w) (ps.length : Nat) n (ps ++ [-1])).1.length) (a.emit (!w) (ps.length : Nat) n (ps ++ [-1])).2
      have ra := emit_run fops tr F a (!w) (ps.length : Nat) n (ps ++ [-1])
      have rb := emit_run fops tr F b w l (n + (a.emit (!w) (ps.length : Nat) n (ps ++ [-1])).1.length) (a.emit (!w) (ps.length : Nat) n (ps ++ [-1])).2
      have hq := emit_pre b w l (n + (a.emit (!w) (ps.length : Nat) n (ps ++ [-1])).1.length) (a.emit (!w) (ps.length : Nat) n (ps ++ [-1])).2
      generalize a.emit (!w) (ps.length : Nat) n (ps ++ [-1]) = A at *
      generalize b.emit w l (n + A.1.length) A.2 = B at *
      simp only [List.length_append, List.length_cons, List.length_nil] at hla
      dsimp only at hs hp
      simp only [List.length_set] at hp
      obtain ⟨la, ka, a1, a2, a3⟩ := ra (fun i op h => hs i op (by have := (List.getElem?_eq_some_iff.mp h).1; rw [List.getElem?_append_left this]; exact h))
        (fun j h1 h2 => by
          simp only [List.length_append, List.length_cons, List.length_nil] at h1
          rw [hp j (by omega) (by omega), List.getElem?_set_ne (by omega), hq j h2])
      obtain ⟨lb, kb, b1, b2, b3⟩ := rb (fun i op h => by
          have := hs (A.1.length + i) op (by rw [List.getElem?_append_right (by omega), Nat.add_sub_cancel_left]; exact h)
          rw [Nat.add_assoc]; exact this)
        (fun j h1 h2 => by rw [hp j (by omega) h2, List.getElem?_set_ne (by omega)])
      have hF : F.getD ((ps.length : Nat) : Int).toNat 0 = ((n + A.1.length + B.1.length : Nat) : Int) := by
        rw [Int.toNat_natCast, List.getD_eq_getElem?_getD, hp ps.length (Nat.le_refl _) (by omega), List.getElem?_set_self (by omega)]; rfl
      by_cases ha : a.truth tr = !w
      · refine ⟨la, ka, a1.trans (List.sublist_append_left _ _), by simp only [List.length_append]; omega, fun f log => ?_⟩
        have hn : ¬ (Cn.con o a b).truth tr = w := by
          simp only [Cn.truth, ha]
          cases o <;> cases w <;> simp at hwf ⊢
        rw [a3, if_pos ha, if_neg hn, hF, Int.toNat_natCast, List.length_append, Nat.add_assoc]
      · refine ⟨la ++ lb, kb + ka, List.Sublist.append a1 b1, by simp only [List.length_append]; omega, fun f log => ?_⟩
        rw [← Nat.add_assoc, a3, if_neg ha, b3]
        have : (b.truth tr = w) = ((Cn.con o a b).truth tr = w) := by
          simp only [Cn.truth]
          cases o <;> cases w <;> simp at hwf ha ⊢ <;> simp [ha]
        simp only [this, List.length_append, List.map_append, List.append_assoc, Nat.add_assoc]
end
theorem fresh_D2 : True ∧ True := by
  k_with_none
  (k_with "binaryOp Pow int int 1" => row_timed "fresh" (fail; (((with_reducible refine Mine.my_pow ?kb1 ?kb2 ?kb3 ?kb4 ?_); (case kb1 => decide); (case kb2 => decide); (case kb3 => first | decide | (with_reducible exact (Mine.pow3_bnd (PySem.W.fmod_lo _ (by decide)) (PySem.W.fmod_hi _ (by decide)) (by assumption) (by assumption)).1) | (with_reducible exact (Mine.pow5_bnd (by assumption) (by assumption)).1)); (case kb4 => first | decide | (with_reducible exact (Mine.pow3_bnd (PySem.W.fmod_lo _ (by decide)) (PySem.W.fmod_hi _ (by decide)) (by assumption) (by assumption)).2) | (with_reducible exact (Mine.pow5_bnd (by assumption) (by assumption)).2)); intro r' hr'))))
  (k_with "m:kroom" => row_timed "fresh" (fail; ((simp only [PyProof.Rows.depth_deeper, PySem.recursionLimit] at *; omega))))
  w_top off
  first | (walk1; done) | exact ⟨trivial, trivial⟩
section
def draftE (c : Cn) (wn : Bool) : List Op × List Int := c.emit wn 0 1 [-1]
def begOf (c : Cn) (wn : Bool) : Nat := 1 + (draftE c wn).1.length
def rawOps (c : Cn) (wn : Bool) : List Op := .doo 1 :: ((draftE c wn).1 ++ [.doo 2, .stop (Str.ofString "exit"), .doo 3, .stop (Str.ofString "stop")])
def plc (c : Cn) (wn : Bool) : List Int := (draftE c wn).2.set 0 ((draftE c wn).1.length + 3 : Nat)
def finOps (c : Cn) (wn : Bool) : List Op := (rawOps c wn).map (Op.re (plc c wn))
theorem OpsAt.of_get {P : Addr → Obj → Prop} : ∀ {ys : List Value} {os : List Op}, ys.length = os.length → (∀ (i : Nat) (y : Value) (o : Op), ys[i]? = some y → os[i]? = some o → OpAt P y o) → OpsAt P ys os
  | [], [], _, _ => .nil
  | [], _ :: _, h, _ => by simp at h
  | _ :: _, [], h, _ => by simp at h
  | y :: ys, o :: os, h, k => .cons (k 0 y o rfl rfl) (.of_get (by simpa using h) fun i y o a b => k (i + 1) y o (by simpa using a) (by simpa using b))
theorem ints_get {vs : List Value} {ns : List Int} (h : IntsAre vs ns) : ∀ {i : Nat} {v : Value}, vs[i]? = some v → ∃ t, v = .int (ns.getD i 0) t ∧ ns[i]? = some (ns.getD i 0) := by
  induction h with
  | nil => intro i v e; simp at e
  | cons n t _ ih => intro i v e; cases i with
    | zero => cases e; exact ⟨_, rfl, rfl⟩
    | succ i => obtain ⟨t, a, b⟩ := ih (by simpa using e); exact ⟨t, by simpa using a, by simpa using b⟩
theorem OpsTo.at {pvs ovs : List Value} {ops : List Op} {P Q : Addr → Obj → Prop} {ys : List Value} {F : List Int} (h : OpsTo pvs ovs ops P ys) (hl : ys.length = ovs.length) (ho : OpsAt Q ovs ops) (hF : IntsAre pvs F) : OpsAt (fun b ob => P b ob ∨ Q b ob) ys (ops.map (Op.re F)) := by
  refine .of_get (by rw [hl, ho.length, List.length_map]) fun i y o ey eo => ?_
  obtain ⟨v, op, ev, eop, hto⟩ := h i y ey
  obtain ⟨op', eop', hat⟩ := ho.get ev
  rw [eop] at eop'; cases eop'
  rw [List.getElem?_map, eop] at eo
  cases eo
  cases hto with
  | same e hj ht =>
    subst e
    cases hat with
    | doo ha => exact .doo (.inr ha)
    | stop ha => exact .stop (.inr ha)
    | test ha => exact absurd rfl (ht _ _)
    | jump ha => exact absurd rfl (hj _)
  | test hv ha => obtain ⟨t, rfl, _⟩ := ints_get hF hv; exact .test (.inl ha)
  | jump hv ha => obtain ⟨t, rfl, _⟩ := ints_get hF hv; exact .jump (.inl ha)
theorem rest_off {o p : Addr} {news : List (Addr × Obj)} {h₀ h : Heap} {L : Addr} (N : News h₀ L h news) (ho : ∀ ob, h.get? o = some ob → False) : ∀ q ∈ news, q.1 ≠ o := fun q hq e => ho q.2 (by rw [← e]; exact N.get hq)
theorem ops_raw {P : Addr → Obj → Prop} {c : Cn} {wn : Bool} {D1 D2 D3 D4 D5 : Addr} {a1 a2 b1 b2 c1 c2 d1 d2 e1 e2 : Tok} {n1 n2 n3 n4 n5 : Nat} {new : List Value}
    (h1 : P D1 (tupOf #[.str (Str.ofString "do") a1, .int 1 a2] n1)) (hE : OpsAt P new (c.emit wn 0 1 [-1]).1)
    (h2 : P D2 (tupOf #[.str (Str.ofString "do") b1, .int 2 b2] n2)) (h3 : P D3 (tupOf #[.str (Str.ofString "stop") c1, .str (Str.ofString "exit") c2] n3))
    (h4 : P D4 (tupOf #[.str (Str.ofString "do") d1, .int 3 d2] n4)) (h5 : P D5 (tupOf #[.str (Str.ofString "stop") e1, .str (Str.ofString "stop") e2] n5)) :
    OpsAt P (([] ++ [Value.ref D1]) ++ new ++ [.ref D2] ++ [.ref D3] ++ [.ref D4] ++ [.ref D5]) (rawOps c wn) := by
  have e : rawOps c wn = ([] ++ [Op.doo 1]) ++ (draftE c wn).1 ++ [.doo 2] ++ [.stop (Str.ofString "exit")] ++ [.doo 3] ++ [.stop (Str.ofString "stop")] := by simp [rawOps]
  rw [e]
  exact .app (.app (.app (.app (.app (.app .nil (.cons (.doo h1) .nil)) hE) (.cons (.doo h2) .nil)) (.cons (.stop h3) .nil)) (.cons (.doo h4) .nil)) (.cons (.stop h5) .nil)
theorem raw_lab {c : Cn} {wn : Bool} {m : Nat} (hm : m = (draftE c wn).2.length) : ∀ op ∈ rawOps c wn, ∀ l, op.lab = some l → 0 ≤ l ∧ l < (m : Nat) := by
  intro op ho l hl
  have e := emit_len c wn 0 1 [-1]
  simp only [List.length_cons, List.length_nil] at e
  simp only [rawOps, List.mem_cons, List.mem_append, List.mem_nil_iff, or_false] at ho
  rcases ho with rfl | ho | rfl | rfl | rfl | rfl
  · cases hl
  · have h := emit_lab c wn 0 1 [-1] op ho l hl
    simp only [List.length_cons, List.length_nil] at h
    subst hm
    simp only [draftE]
    omega
  all_goals cases hl
section
variable {w : World} {p : Program} {loose : List Str} {mean : ExcName → Option Value} {mg mb : Str → Option Value} {A : Around} {s : Shared} {g : Heap} {L : Addr} {m : Str → Option Value} {Q : Value → Shared → Prop} {E : Value → Shared → Prop}
theorem draft_use {pp dp rl : Addr} {tr tu : Tok} {us : Value} {np nr : Nat} {news : List (Addr × Obj)}
    (X : (hd.heap_1 w.params).In g) (T : Top p loose mean mg mb g) (hh : A.handled = none) (hdp : A.depth ≤ 700) (hu : A.units ≤ 3800) (F : Fr g L s.heap m) (N : News g L s.heap news)
    (hp : (pp, instObj 490 dp) ∈ news) (hd : (dp, dictOf [⟨PyData.keyHash w.params (Str.ofString "rows"), .str (Str.ofString "rows") tr, .ref rl⟩, ⟨PyData.keyHash w.params (Str.ofString "using"), .str (Str.ofString "using") tu, us⟩] np) ∈ news) (hr : (rl, W.listOf #[] nr) ∈ news)
    (h : ∀ x dx t1 t2 t3 t4 t5 t6 o pl hs n n1 n2 n3 h' tk, Fr g L h' m → News g L h' ((o, W.listOf [].toArray n1) :: (pl, W.listOf [].toArray n2) :: (hs, W.listOf #[] n3) :: (x, instObj 117 dx) :: (dx, dictOf (drE w t1 t2 t3 t4 t5 t6 (.ref pp) o pl hs) n) :: news) →
      o ≠ pl → (∀ q ∈ (hs, W.listOf #[] n3) :: (x, instObj 117 dx) :: (dx, dictOf (drE w t1 t2 t3 t4 t5 t6 (.ref pp) o pl hs) n) :: news, q.1 ≠ o ∧ q.1 ≠ pl) → (∀ q ∈ (x, instObj 117 dx) :: (dx, dictOf (drE w t1 t2 t3 t4 t5 t6 (.ref pp) o pl hs) n) :: news, q.1 ≠ hs) → (∀ q ∈ news, q.1 < dx) → dx < x → Q (.ref x) { s with heap := h', toks := tk }) :
    wpAny (model PySem.Challenge.rw_pq0617_01.row.prog w) A (call (.ref 117) [.ref pp]) Q E s := by
  refine cls_use (d := 701) (u := 3801) X hh (Nat.add_le_add_right hdp 1) (Nat.add_le_add_right hu 1) F N (by k_is) (by k_is) (by k_is) (fun _ dx s' h r => r = .none ∧ ∃ t1 t2 t3 t4 t5 t6 o pl hs n n1 n2 n3, h.get? dx = some (dictOf (drE w t1 t2 t3 t4 t5 t6 (.ref pp) o pl hs) n) ∧
      h.get? o = some (W.listOf #[] n1) ∧ h.get? pl = some (W.listOf #[] n2) ∧ h.get? hs = some (W.listOf #[] n3) ∧ s'.heap.get? o = none ∧ s'.heap.get? pl = none ∧ s'.heap.get? hs = none ∧ o ≠ pl ∧ o ≠ hs ∧ pl ≠ hs) (fun _ _ _ _ _ h => h.1) ?_ ?_
  · intro x dx s' a hold c e f
    have hdd := hold _ hd
    refine draft_init X T a x dx pp dp rl tr tu us np nr c e f (hold _ hp) hdd (fun q => ?_) (hold _ hr) (by omega) (by omega)
    subst q
    rw [e] at hdd
    cases hdd
  · rintro x dx s' h' tk F' k1 k2 hold l1 l2 hx' ⟨_, t1, t2, t3, t4, t5, t6, o, pl, hs, n, n1, n2, n3, hg, ho, hpl, hhs, fo, fp, fh, d1, d2, d3⟩
    have no : ∀ (b : Addr), s'.heap.get? b = none → (∀ q ∈ news, q.1 ≠ b) ∧ x ≠ b := fun b fb => ⟨(fun q hq e => by rw [← e, hold q hq] at fb; cases fb), (fun e => by rw [← e, hx'] at fb; cases fb)⟩
    have dxn : ∀ (b : Addr) (n : Nat), h'.get? b = some (W.listOf #[] n) → dx ≠ b := fun b k e => PySem.W.X.ne_objs _ _ _ _ hg e rfl
    refine h x dx t1 t2 t3 t4 t5 t6 o pl hs n n1 n2 n3 h' tk F' (news_cons (k2 _ ho (.inr fo)) (news_cons (k2 _ hpl (.inr fp)) (news_cons (k2 _ hhs (.inr fh)) (news_cons (k1 _ (.head _)) (news_cons (k2 _ hg (.inl rfl)) (news_all fun q hq => k1 q (.tail _ hq))))))) d1 ?_ ?_ l1 l2
    · intro q hq
      simp only [List.mem_cons] at hq
      rcases hq with rfl | rfl | rfl | hq
      · exact ⟨Ne.symm d2, Ne.symm d3⟩
      · exact ⟨(no o fo).2, (no pl fp).2⟩
      · exact ⟨dxn _ _ ho, dxn _ _ hpl⟩
      · exact ⟨(no o fo).1 q hq, (no pl fp).1 q hq⟩
    · intro q hq
      simp only [List.mem_cons] at hq
      rcases hq with rfl | rfl | hq
      · exact (no hs fh).2
      · exact dxn _ _ hhs
      · exact (no hs fh).1 q hq
theorem TabOk1.get {h : Heap} {line col : Int} {q : Str} {tab : Array Value} (ht : TabOk1 line col q (fun b ob => h.get? b = some ob) tab) (g : Heap) (L P : Addr) (oL : Obj) (hP : h.get? P = some (tabObj tab)) (hL : h.get? L = some oL) (hLd : ∀ vs, oL.data ≠ .fields vs) (hk : ∀ b o, g.get? b = some o → h.get? b = some o) :
    ∃ R : List (Addr × Obj), (∀ q ∈ R, h.get? q.1 = some q.2 ∧ q.1 ≠ L ∧ g.get? q.1 = none ∧ q.1 ≠ P) ∧ TabOk1 line col q (fun b ob => (b, ob) ∈ R ∨ g.get? b = some ob) tab := by
  rcases ht with rfl | ⟨c, oc, vs, t, rfl, hc, e1, e2⟩
  · exact ⟨[], (fun _ h => nomatch h), .inl rfl⟩
  · cases e : g.get? c with
    | some o =>
      have := hk _ _ e
      rw [hc] at this; cases this
      exact ⟨[], (fun _ h => nomatch h), .inr ⟨c, oc, vs, t, rfl, .inr e, e1, e2⟩⟩
    | none =>
      refine ⟨[(c, oc)], fun q hq => ?_, .inr ⟨c, oc, vs, t, rfl, .inl (List.mem_singleton.mpr rfl), e1, e2⟩⟩
      rw [List.mem_singleton.mp hq]
      refine ⟨hc, fun q => ?_, e, fun q => ?_⟩
      · subst q; rw [hc] at hL; cases hL; exact hLd _ e1
      · subst q; rw [hc] at hP; cases hP; cases e1; simp [rawInt] at e2
abbrev codE (w : World) (t1 t2 : Tok) (ot bt : Addr) : List DictEntry := [⟨PyData.keyHash w.params (Str.ofString "ops"), .str (Str.ofString "ops") t1, .ref ot⟩, ⟨PyData.keyHash w.params (Str.ofString "begins"), .str (Str.ofString "begins") t2, .ref bt⟩]
theorem OpsAt.split {P Q : Addr → Obj → Prop} {ys : List Value} {os : List Op} (h : OpsAt (fun b ob => P b ob ∨ Q b ob) ys os) : ∃ R : List (Addr × Obj), (∀ q ∈ R, P q.1 q.2) ∧ OpsAt (fun b ob => (b, ob) ∈ R ∨ Q b ob) ys os := by
  classical
  obtain ⟨R, hR, ho⟩ := h.list
  refine ⟨R.filter fun q => decide (P q.1 q.2), fun q hq => of_decide_eq_true (List.mem_filter.mp hq).2, ho.mono fun b ob hb => ?_⟩
  by_cases hp : P b ob
  · exact .inl (List.mem_filter.mpr ⟨hb, decide_eq_true hp⟩)
  · exact .inr ((hR _ hb).resolve_left hp)
theorem finished_use {x dx o pl hs : Addr} {t1 t2 t3 t4 t5 t6 : Tok} {pr : Value} {nd n1 n2 n3 : Nat} {ovs pvs : List Value} {ops : List Op} {tab : Array Value} {F' : List Int} {news : List (Addr × Obj)}
    (X : (hd.heap_1 w.params).In g) (T : Top p loose mean mg mb g) (hh : A.handled = none) (hd : A.depth ≤ 780) (hu : A.units ≤ 3800) (F : Fr g L s.heap m) (N : News g L s.heap news) (hmt : (111, tabObj tab) ∈ news) (hC : CodeHd g 113 111)
    (hx : s.heap.get? x = some (instObj 117 dx)) (hdx : s.heap.get? dx = some (dictOf (drE w t1 t2 t3 t4 t5 t6 pr o pl hs) nd))
    (ho : s.heap.get? o = some (W.listOf ovs.toArray n1)) (hpl : s.heap.get? pl = some (W.listOf pvs.toArray n2)) (hhs : s.heap.get? hs = some (W.listOf #[] n3))
    (ht : TabOk1 58 36 lamQ (fun b ob => s.heap.get? b = some ob) tab)
    (hR0 : OpsAt (fun b ob => (b, ob) ∈ news ∧ b ≠ 111) ovs ops) (hln : ovs.length ≤ 1000) (hlp : pvs.length ≤ 1000) (hF : IntsAre pvs F')
    (hl : ∀ op ∈ ops, ∀ l, op.lab = some l → 0 ≤ l ∧ l < (pvs.length : Nat))
    (h : ∀ cx cdx ot bt t1 t2 ys n n4 n5 tab' R h' tk, Fr g L h' m → News g L h' ((cx, instObj 46 cdx) :: (cdx, dictOf (codE w t1 t2 ot bt) n) :: (ot, tupOf ys.toArray n4) :: (bt, tupOf #[] n5) :: (111, tabObj tab') :: (R ++ news.filter fun q => q.1 != 111)) →
      (∀ q ∈ (cx, instObj 46 cdx) :: (cdx, dictOf (codE w t1 t2 ot bt) n) :: (ot, tupOf ys.toArray n4) :: (bt, tupOf #[] n5) :: R, q.1 ≠ 111) → 
      OpsAt (fun b ob => (b, ob) ∈ R ∨ (b, ob) ∈ news ∧ b ≠ 111) ys (ops.map (Op.re F')) → TabOk1 58 36 lamQ (fun b ob => (b, ob) ∈ R ∨ g.get? b = some ob) tab' → Q (.ref cx) { s with heap := h', toks := tk }) :
    wpAny (model PySem.Challenge.rw_pq0617_01.row.prog w) A (call (.ref 114) [.ref x]) Q E s := by
  have hN := N _ hmt
  have hops := hR0.mono fun b ob hb => N.get hb.1
  refine use2 (d := 780) (u := 3800) (finished_ok X T F.keep hC x dx o pl hs t1 t2 t3 t4 t5 t6 pr nd n1 n2 n3 ovs pvs ops tab hx hdx ho hpl hhs hN.1 hN.2.2 ht hops hln hlp (fun op hop l hc => ?_) (Nat.le_refl _) (Nat.le_refl _)) hh hd hu F N (fun b hb => by rw [List.mem_singleton.mp hb]; exact ⟨_, hmt⟩) ?_
  · have := hl op hop l (by rcases hc with rfl | ⟨w, rfl⟩ <;> rfl)
    exact ⟨this.1, _, List.getElem?_eq_getElem (by omega)⟩
  rintro v h' tk Fn' k1 k2 ⟨cx, cdx, ot, bt, u1, u2, ys, n, n4, n5, tab', rfl, e1, e2, e3, e4, f1, f2, f3, f4, hlen, hto, etab, htab'⟩
  obtain ⟨R1, hR1, hat⟩ := (hto.at hlen hR0 hF).split
  obtain ⟨oL, es, ep, hL, hLd, hLk, hLf⟩ := Fn'.ns
  obtain ⟨R2, hR2, htab⟩ := TabOk1.get (htab'.mono fun b ob hb => hb.1) g L 111 oL etab hL (fun vs e => by rw [hLd] at e; cases e) Fn'.keep
  have f111 : ∀ b, s.heap.get? b = none → b ≠ 111 := fun b e q => by rw [q, hN.1] at e; cases e
  refine h cx cdx ot bt u1 u2 ys n n4 n5 tab' (R1 ++ R2) h' tk Fn' (news_cons (k2 _ e1 (.inr f1)) (news_cons (k2 _ e2 (.inr f2)) (news_cons (k2 _ e3 (.inr f3)) (news_cons (k2 _ e4 (.inr f4)) (news_cons (k2 _ etab (.inl (.head _))) (news_app (news_app (news_all fun q hq => k2 q (hR1 q hq).1 (.inr (hR1 q hq).2)) ?_) (news_all fun q hq => k1 q (List.mem_filter.mp hq).1 fun hm => by simpa [List.mem_singleton.mp hm] using (List.mem_filter.mp hq).2))))))) ?_ (hat.mono fun b ob hb => hb.imp (fun h => List.mem_append.mpr (.inl h)) id) (htab.mono fun b ob hb => hb.imp (fun h => List.mem_append.mpr (.inr h)) id)
  · intro q hq
    exact ⟨(hR2 q hq).1, (hR2 q hq).2.1, (hR2 q hq).2.2.1⟩
  · intro q hq
    simp only [List.mem_cons, List.mem_append] at hq
    rcases hq with rfl | rfl | rfl | rfl | hq | hq
    · exact f111 _ f1
    · exact f111 _ f2
    · exact f111 _ f3
    · exact f111 _ f4
    · exact f111 _ (hR1 q hq).2
    · exact (hR2 q hq).2.2.2
end
end
theorem fresh_D3 : True ∧ True := by
  k_with_none
  (k_with "binaryOp Pow int int 1" => row_timed "fresh" (fail; (((with_reducible refine Mine.my_pow ?kb1 ?kb2 ?kb3 ?kb4 ?_); (case kb1 => decide); (case kb2 => decide); (case kb3 => first | decide | (with_reducible exact (Mine.pow3_bnd (PySem.W.fmod_lo _ (by decide)) (PySem.W.fmod_hi _ (by decide)) (by assumption) (by assumption)).1) | (with_reducible exact (Mine.pow5_bnd (by assumption) (by assumption)).1)); (case kb4 => first | decide | (with_reducible exact (Mine.pow3_bnd (PySem.W.fmod_lo _ (by decide)) (PySem.W.fmod_hi _ (by decide)) (by assumption) (by assumption)).2) | (with_reducible exact (Mine.pow5_bnd (by assumption) (by assumption)).2)); intro r' hr'))))
  (k_with "m:kroom" => row_timed "fresh" (fail; ((simp only [PyProof.Rows.depth_deeper, PySem.recursionLimit] at *; omega))))
  w_top off
  first | (walk1; done) | exact ⟨trivial, trivial⟩
section
theorem mapp_r {α : Type} {a : α} {R l : List α} (h : List.Mem a l) : List.Mem a (R ++ l) := List.mem_append_right _ h
theorem mapp_l {α : Type} {a : α} {R l : List α} (h : List.Mem a R) : List.Mem a (R ++ l) := List.mem_append_left _ h
theorem word_17 : True := by
  (k_with "m:zmem" => row_timed "fresh" (fail; (first | with_reducible exact List.Mem.head _ | (with_reducible refine' List.Mem.tail _ ?_; k_extra "m:zmem") | (with_reducible refine mapp_r ?_; k_extra "m:zmem") | (refine mapp_l ?_; assumption))))
  (k_with "m:mem" => row_timed "fresh" (fail; (k_extra "m:zmem")))
  (k_with "m:room" => row_timed "fresh" (fail; (((try simp only [depth_deeper, units_deeper, AT_depth, AT_units]); omega))))
  (k_with "m:len" => row_timed "fresh" (fail; (((try simp only [List.length_append, List.length_cons, List.length_nil, List.length_set]); omega))))
  (k_with "m:off" => row_timed "fresh" (fail; (first | assumption | exact off_nil | (refine off_app ?_ ?_ <;> k_extra "m:off") | (refine off_cons (by k_ne) (by k_ne) ?_; k_extra "m:off"))))
  (k_with "m:news" => row_timed "fresh" (fail; (first | exact news_rot (by k_asm) | k_asm)))
  (k_with "call ref 1" => row_timed "fresh" (fail; (((show wpAny _ _ (call (Value.ref 81) [Value.ref _]) _ _ _); refine fresh_use (by k_asm) (by k_asm) rfl (by k_extra "m:room") (by k_extra "m:room") (News.get (by k_asm) (by k_mem)) (News.get (by k_asm) (by k_mem)) (by k_asm) (by k_asm) (by k_asm) (by k_extra "m:off") (by k_extra "m:len") ?_; intro t t' n' h' tk' F' N'; (try k_sweep); (try dsimp only)))))
  (k_with "call ref 2" => row_timed "fresh" (fail; (((show wpAny _ _ (call (Value.ref 95) [Value.ref _, _]) _ _ _); refine put_use (by k_asm) (by k_asm) rfl (by k_extra "m:room") (by k_extra "m:room") (News.get (by k_asm) (by k_mem)) (News.get (by k_asm) (by k_mem)) (by k_asm) (by k_extra "m:news") (by k_asm) (by k_extra "m:off") (by k_extra "m:len") ?_; intro n' h' tk' F' N'; (try k_sweep); (try dsimp only)))))
  (k_with "call ref 3" => row_timed "fresh" (fail; (((show wpAny _ _ (call (Value.ref 88) [Value.ref _, Value.int _ _]) _ _ _); refine here_use (by k_asm) (by k_asm) rfl (by k_extra "m:room") (by k_extra "m:room") (News.get (by k_asm) (by k_mem)) (News.get (by k_asm) (by k_mem)) (by k_asm) (by k_asm) (by k_asm) (by k_extra "m:off") (by k_extra "m:len") (by k_extra "m:len") (by k_extra "m:len") (by k_extra "m:len") ?_; intro n' t' h' tk' F' N'; (try k_sweep); (try dsimp only)))))
  (k_with "m:ints" => row_timed "fresh" (fail; (first | assumption | exact ints_snoc (by assumption) | exact ints_snoc .nil)))
  (k_with "call ref 4" => ((show wpAny _ _ (call (Value.ref 128) [Value.ref _, _, Value.bool _, Value.int _ _]) _ _ _); refine' putc_use ?H ?X ?T ?hh ?hd ?hu ?hx ?hdx ?F ?N ?hne ?hr ?hc ?hps ?hlo ?hlp ?_; (case F => k_asm); (case hc => exact CnAt.mono (by assumption) (Fr.keep (by k_asm))); (case H => assumption); (case X => k_asm); (case T => k_asm); (case hh => rfl); (case hd => k_extra "m:room"); (case hu => k_extra "m:room"); (case hx => exact News.get (by k_asm) (by k_mem)); (case hdx => exact News.get (by k_asm) (by k_mem)); (case N => k_asm); (case hne => k_asm); (case hr => k_extra "m:off"); (case hps => k_extra "m:ints"); (case hlo => k_extra "m:len"); (case hlp => k_extra "m:len"); intro new pvs' n1' n2' R hp tkp Fp Np hR hE hP hlen; (try simp only [List.length_append, List.length_cons, List.length_nil] at hlen); (try k_sweep); (try dsimp only)))
  (k_with "call ref 5" => row_timed "fresh" (fail; (((show wpAny _ _ (call (Value.ref 490) [_, _]) _ _ _); refine' proc_use ?X ?T ?hh ?hd ?hu ?F ?N ?_; (case X => k_asm); (case T => k_asm); (case hh => rfl); (case hd => k_extra "m:room"); (case hu => k_extra "m:room"); (case F => k_asm); (case N => k_asm); intro x dx t1 t2 n h' tk' F' N' l1 l2; (try k_lt l1); (try k_lt2 l2); (try k_sweep); (try dsimp only)))))
  (k_with "call ref 6" => row_timed "fresh" (fail; (((show wpAny _ _ (call (Value.ref 117) [Value.ref _]) _ _ _); refine' draft_use ?X ?T ?hh ?hd ?hu ?F ?N ?a ?b ?c ?_; (case X => k_asm); (case T => k_asm); (case hh => rfl); (case hd => k_extra "m:room"); (case hu => k_extra "m:room"); (case F => k_asm); (case N => k_asm); (case a => k_mem); (case b => k_mem); (case c => k_mem); intro x dx t1 t2 t3 t4 t5 t6 o pl hs n n1 n2 n3 h' tk' F' N' hop hoff hoffs l1 l2; (try k_lt l1); (try k_lt2 l2); (try k_sweep); (try dsimp only)))))
  (k_with "call builtin:len 1" => row_timed "fresh" (fail; (((with_reducible show wpAny _ _ (call (Value.builtin "len") [Value.ref _]) _ _ _); refine len_news (by k_asm) (by k_mem) (by k_extra "m:len") ?_))))
  trivial
theorem ints_plc {P : Addr → Obj → Prop} {new pvs' : List Value} {c : Cn} {wn : Bool} {t : Tok} {D1 D2 D3 : Addr} (hops : OpsAt P new (c.emit wn 0 1 [-1]).1) (h : IntsAre pvs' (c.emit wn 0 1 [-1]).2) :
    IntsAre (pvs'.set (((([] : List Value).length : Nat) : Int).toNat) (.int ((([] ++ [Value.ref D1] ++ new ++ [Value.ref D2] ++ [Value.ref D3]).length : Nat)) t)) (plc c wn) := by
  have e : plc c wn = (c.emit wn 0 1 [-1]).2.set 0 ((([] ++ [Value.ref D1] ++ new ++ [Value.ref D2] ++ [Value.ref D3]).length : Nat) : Int) := by
    simp only [plc, draftE, List.length_append, List.length_cons, List.length_nil, hops.length]
    congr 2
    omega
  rw [e]
  exact ints_set h 0
theorem beg_len {P : Addr → Obj → Prop} {new : List Value} {c : Cn} {wn : Bool} {D1 : Addr} (hops : OpsAt P new (c.emit wn 0 1 [-1]).1) : begOf c wn = ([] ++ [Value.ref D1] ++ new).length := by
  simp only [begOf, draftE, List.length_append, List.length_cons, List.length_nil, hops.length]
theorem ne111 {g h : Heap} {L b : Addr} {news : List (Addr × Obj)} {vs : Array Value} {n : Nat} {tab : Array Value} (N : News g L h news) (h1 : (b, tupOf vs n) ∈ news) (h2 : (111, tabObj tab) ∈ news) : (b, tupOf vs n) ∈ news ∧ b ≠ 111 := ⟨h1, PySem.W.X.ne_objs _ _ _ _ (N.get h1) (N.get h2) rfl⟩
theorem get_beg {h : Heap} {a cx D : Addr} {k : Nat} {t : Tok} {n : Nat} {new : List Value} (e : k = ([] ++ [Value.ref 0] ++ new).length) (g : h.get? a = some (tupOf #[.ref cx, .int (([] ++ [Value.ref D] ++ new).length : Nat) t] n)) : h.get? a = some (tupOf #[.ref cx, .int (k : Nat) t] n) := by rw [e]; exact g
def DraftPost (w : World) (s : Shared) (c : Cn) (wn : Bool) (h : Heap) (r : Value) : Prop :=
  ∃ r0 nr cx cdx ot bt t1 t2 t3 ys n n4 n5 tab', r = .ref r0 ∧ h.get? r0 = some (tupOf #[.ref cx, .int (begOf c wn : Nat) t3] nr) ∧ h.get? cx = some (instObj 46 cdx) ∧ h.get? cdx = some (dictOf (codE w t1 t2 ot bt) n) ∧ h.get? ot = some (tupOf ys.toArray n4) ∧ h.get? bt = some (tupOf #[] n5) ∧
    s.heap.get? r0 = none ∧ s.heap.get? cx = none ∧ s.heap.get? cdx = none ∧ s.heap.get? ot = none ∧ s.heap.get? bt = none ∧
    OpsAt (fun b ob => h.get? b = some ob ∧ s.heap.get? b = none) ys (finOps c wn) ∧ h.get? 111 = some (tabObj tab') ∧ TabOk1 58 36 lamQ (fun b ob => h.get? b = some ob) tab'
set_option maxHeartbeats 4000000 in
theorem drafted_ok {w : World} {d u : Nat} {s : Shared} {hb : Heap} {p : Program} {loose : List Str} {mean : ExcName → Option Value} {mg mb : Str → Option Value}
    (X : (hd.heap_1 w.params).In hb) (T : Top p loose mean mg mb hb) (hK : hb.StaysIn s.heap) (hC : CodeHd hb 113 111)
    (v : Value) (c : Cn) (wn : Bool) (tab : Array Value) (hc : CnAt (fun b ob => s.heap.get? b = some ob) v c)
    (htab : s.heap.get? 111 = some (tabObj tab)) (hf : hb.get? 111 = none) (ht : TabOk1 58 36 lamQ (fun b ob => s.heap.get? b = some ob) tab)
    (hsz : c.size ≤ 100) (hD : d + c.deep + 60 ≤ 700) (hU : u + 10 * c.deep + 300 ≤ 3800) :
    Fn w (AT d u) s 553 [v, .bool wn] [111] (DraftPost w s c wn) := by
  refine enter (K := hd.heap_1 w.params) (binds := [(Str.ofString "cond", v), (Str.ofString "is_wanted", .bool wn)]) [(111, tabObj tab)] X T hK ?_ (by k_is) (by k_is) (by simp only [recursionLimit]; omega) (BindsTo.of_eq rfl) (locs rfl) ?_ rfl rfl rfl (by decide)
  · intro q hq; cases hq with
    | head => exact ⟨htab, hf⟩
    | tail _ h => cases h
  intro g' L' h' Kg F' N' l1 X' T' S'
  k_lt l1
  have htg : TabOk1 58 36 lamQ (fun b ob => g'.get? b = some ob) tab := by
    refine ht.imp id ?_
    rintro ⟨c, oc, vs, t, a, b, d, e⟩
    exact ⟨c, oc, vs, t, a, Kg _ _ b (nin1 fun q => by rw [q, htab] at b; cases b; cases d; subst a; simp [rawInt] at e), d, e⟩
  have hcg : CnAt (fun b ob => g'.get? b = some ob) v c := hc.monoT fun a vs n e => Kg _ _ e (nin1 (PySem.W.X.ne_objs _ _ _ _ e htab rfl))
  have hCg : CodeHd g' 113 111 := hC.keeps S'
  have H1 : PutcOk w c := putc_ok w c
  clear hc
  show wpAny _ _ _ _ _ _
  k_fold
  w_strict (k_steps)
  replace hE : OpsAt _ _ (c.emit wn 0 1 [-1]).1 := hE
  replace hP : IntsAre _ (c.emit wn 0 1 [-1]).2 := hP
  have hEl := hE.length
  have hPl := hP.length
  have hel := emit_len c wn 0 1 [-1]
  simp only [List.length_cons, List.length_nil] at hel
  have hbl := beg_len (D1 := 0) hE
  refine finished_use X' T' rfl (by k_extra "m:room") (by k_extra "m:room") (by assumption) (by assumption) (by k_mem) hCg (News.get (by assumption) (by k_mem)) (News.get (by assumption) (by k_mem)) (News.get (by assumption) (by k_mem)) (News.get (by assumption) (by k_mem)) (News.get (by assumption) (by k_mem)) (htg.mono (Fr.keep (by assumption)))
    (ops_raw (c := c) (wn := wn) (ne111 (tab := tab) (by assumption) (by k_mem) (by k_mem)) (hE.monoT fun b vs n hb => ⟨by k_mem, PySem.W.X.ne_objs _ _ _ _ (News.get (by assumption) (by k_mem : (b, tupOf vs n) ∈ _)) (News.get (by assumption) (by k_mem : (111, tabObj tab) ∈ _)) rfl⟩) (ne111 (tab := tab) (by assumption) (by k_mem) (by k_mem)) (ne111 (tab := tab) (by assumption) (by k_mem) (by k_mem)) (ne111 (tab := tab) (by assumption) (by k_mem) (by k_mem)) (ne111 (tab := tab) (by assumption) (by k_mem) (by k_mem)))
    (by k_extra "m:len") (by k_extra "m:len") (ints_plc hE hP) (raw_lab (by simp only [List.length_set, draftE, hPl])) ?_
  intro cx cdx ot bt u1 u2 ys n n4 n5 tab' R1 h9 tk9 F9 N9 hoff9 hat9 htab9
  k_sweep
  try dsimp only
  k_steps
  show BodyEnd _ _ _ _ _
  simp only [List.forall_mem_cons] at hoff9
  obtain ⟨o1, o2, o3, o4, o5⟩ := hoff9
  refine ⟨_, _, rfl, Fr.keep (by assumption), _, _, cx, cdx, ot, bt, u1, u2, _, ys, n, n4, n5, tab', rfl, get_beg hbl (News.get (by assumption) (.head _)), News.get (by assumption) (by k_mem), News.get (by assumption) (by k_mem), News.get (by assumption) (by k_mem), News.get (by assumption) (by k_mem),
    fresh_in Kg (by assumption) (.head _) (nin1 (by k_ne)), fresh_in Kg (by assumption) (.tail _ (.head _)) (nin1 o1), fresh_in Kg (by assumption) (.tail _ (.tail _ (.head _))) (nin1 o2), fresh_in Kg (by assumption) (.tail _ (.tail _ (.tail _ (.head _)))) (nin1 o3), fresh_in Kg (by assumption) (.tail _ (.tail _ (.tail _ (.tail _ (.head _))))) (nin1 o4),
    hat9.mono fun b ob hb => ?_, News.get (by assumption) (by k_mem), htab9.mono fun b ob hb => ?_⟩
  · rcases hb with hb | ⟨hb, hne⟩
    · have hb' : ∀ (l : List (Addr × Obj)), (∀ q ∈ R1, q ∈ l) → (b, ob) ∈ l := fun l hs => hs _ hb
      have := o5 _ hb
      exact ⟨News.get (by assumption) (hb' _ (fun q hq => by simp only [List.mem_cons, List.mem_append]; simp [hq])), fresh_in Kg (by assumption) (hb' _ (fun q hq => by simp only [List.mem_cons, List.mem_append]; simp [hq])) (nin1 this)⟩
    · have hb9 := List.mem_filter (p := fun q : Addr × Obj => q.1 != 111) |>.mpr ⟨hb, by simpa using hne⟩
      exact ⟨News.get (by assumption) (.tail _ (.tail _ (.tail _ (.tail _ (.tail _ (.tail _ (List.mem_append_right _ hb9))))))), fresh_in Kg (by assumption) (.tail _ (.tail _ (.tail _ (.tail _ (.tail _ (.tail _ (List.mem_append_right _ hb9))))))) (nin1 hne)⟩
  · rcases hb with hb | hb
    · have hb' : ∀ (l : List (Addr × Obj)), (∀ q ∈ R1, q ∈ l) → (b, ob) ∈ l := fun l hs => hs _ hb
      exact News.get (by assumption) (hb' _ (fun q hq => by simp only [List.mem_cons, List.mem_append]; simp [hq]))
    · exact Fr.keep (by assumption) _ _ hb
end
theorem fresh_D4 : True ∧ True := by
  k_with_none
  (k_with "binaryOp Pow int int 1" => row_timed "fresh" (fail; (((with_reducible refine Mine.my_pow ?kb1 ?kb2 ?kb3 ?kb4 ?_); (case kb1 => decide); (case kb2 => decide); (case kb3 => first | decide | (with_reducible exact (Mine.pow3_bnd (PySem.W.fmod_lo _ (by decide)) (PySem.W.fmod_hi _ (by decide)) (by assumption) (by assumption)).1) | (with_reducible exact (Mine.pow5_bnd (by assumption) (by assumption)).1)); (case kb4 => first | decide | (with_reducible exact (Mine.pow3_bnd (PySem.W.fmod_lo _ (by decide)) (PySem.W.fmod_hi _ (by decide)) (by assumption) (by assumption)).2) | (with_reducible exact (Mine.pow5_bnd (by assumption) (by assumption)).2)); intro r' hr'))))
  (k_with "m:kroom" => row_timed "fresh" (fail; ((simp only [PyProof.Rows.depth_deeper, PySem.recursionLimit] at *; omega))))
  (k_with "m:zmem" => row_timed "fresh" (fail; (first | with_reducible exact List.Mem.head _ | (with_reducible refine' List.Mem.tail _ ?_; k_extra "m:zmem") | (with_reducible refine mapp_r ?_; k_extra "m:zmem") | (refine mapp_l ?_; assumption))))
  w_top off
  first | (walk1; done) | exact ⟨trivial, trivial⟩
section
theorem raw_neg (c : Cn) (wn : Bool) : rawOps (.neg c) (!wn) = rawOps c wn := by simp [rawOps, draftE, Cn.emit]
theorem fin_neg (c : Cn) (wn : Bool) : finOps (.neg c) (!wn) = finOps c wn := by simp [finOps, rawOps, plc, draftE, Cn.emit]
theorem beg_neg (c : Cn) (wn : Bool) : begOf (.neg c) (!wn) = begOf c wn := by simp [begOf, draftE, Cn.emit]
theorem emit_nn : ∀ (c : Cn) (w : Bool) (l : Int) (n : Nat) (ps : List Int) (j : Nat), ps.length ≤ j → j < (c.emit w l n ps).2.length → 0 ≤ (c.emit w l n ps).2.getD j 0
  | .leaf v _, true, l, n, ps, j, h1, h2 => by
    simp only [Cn.emit, List.length_set, List.length_append, List.length_cons, List.length_nil] at h2 ⊢
    obtain rfl : j = ps.length := by omega
    simp only [List.getD_eq_getElem?_getD, List.getElem?_set_self (by simp : ps.length < (ps ++ [-1]).length), Option.getD_some]
    omega
  | .leaf v _, false, l, n, ps, j, h1, h2 => by
    simp only [Cn.emit] at h2; omega
  | .neg c, w, l, n, ps, j, h1, h2 => emit_nn c (!w) l n ps j h1 h2
  | .con o a b, w, l, n, ps, j, h1, h2 => by
    unfold Cn.emit at h2 ⊢
    split
    · rename_i hw
      rw [if_pos hw] at h2
      simp only at h2 ⊢
      by_cases hj : j < (a.emit w l n ps).2.length
      · have := emit_pre b w l (n + (a.emit w l n ps).1.length) (a.emit w l n ps).2 j hj
        simp only [List.getD_eq_getElem?_getD, this]
        have := emit_nn a w l n ps j h1 hj
        simpa only [List.getD_eq_getElem?_getD] using this
      · exact emit_nn b w l (n + (a.emit w l n ps).1.length) (a.emit w l n ps).2 j (by omega) h2
    · rename_i hw
      rw [if_neg hw] at h2
      simp only [List.length_set] at h2 ⊢
      by_cases e : j = ps.length
      · subst e
        simp only [List.getD_eq_getElem?_getD, List.getElem?_set_self h2, Option.getD_some]
        omega
      · simp only [List.getD_eq_getElem?_getD, List.getElem?_set_ne (Ne.symm e)]
        by_cases hj : j < (a.emit (!w) (ps.length : Nat) n (ps ++ [-1])).2.length
        · rw [emit_pre b w l _ _ j hj]
          have := emit_nn a (!w) (ps.length : Nat) n (ps ++ [-1]) j (by simp; omega) hj
          simpa only [List.getD_eq_getElem?_getD] using this
        · have := emit_nn b w l (n + (a.emit (!w) (ps.length : Nat) n (ps ++ [-1])).1.length) (a.emit (!w) (ps.length : Nat) n (ps ++ [-1])).2 j (by omega) h2
          simpa only [List.getD_eq_getElem?_getD] using this
theorem plc_nn (c : Cn) (wn : Bool) (j : Nat) (h : j < (draftE c wn).2.length) : 0 ≤ (plc c wn).getD j 0 := by
  by_cases e : j = 0
  · subst e
    simp only [plc, List.getD_eq_getElem?_getD, List.getElem?_set_self h, Option.getD_some]
    omega
  · have := emit_nn c wn 0 1 [-1] j (by simp; omega) h
    simp only [plc, List.getD_eq_getElem?_getD, List.getElem?_set_ne (Ne.symm e)]
    rw [List.getD_eq_getElem?_getD] at this
    exact this
theorem fin_lab (c : Cn) (wn : Bool) : ∀ op ∈ finOps c wn, ∀ l, op.lab = some l → 0 ≤ l := by
  intro op ho l hl
  obtain ⟨op', ho', rfl⟩ := List.mem_map.mp ho
  have hr := raw_lab (c := c) (wn := wn) rfl op' ho'
  cases op' with
  | doo i => cases hl
  | stop x => cases hl
  | test v l' =>
    cases hl
    have := hr l' rfl
    exact plc_nn c wn _ (by omega)
  | jump l' =>
    cases hl
    have := hr l' rfl
    exact plc_nn c wn _ (by omega)
theorem fin_test (c : Cn) (wn : Bool) (v : Value) (l : Int) (h : Op.test v l ∈ finOps c wn) : v ∈ c.leaves := by
  obtain ⟨op', ho', e⟩ := List.mem_map.mp h
  cases op' with
  | doo i => cases e
  | stop x => cases e
  | jump l' => cases e
  | test v' l' =>
    cases e
    have : Op.test v l' ∈ (c.emit wn 0 1 [-1]).1 := by
      simpa [rawOps, draftE] using ho'
    rw [← emit_tests c wn 0 1 [-1]]
    exact List.mem_filterMap.mpr ⟨_, this, rfl⟩
theorem fin_len (c : Cn) (wn : Bool) : (finOps c wn).length = (draftE c wn).1.length + 5 := by simp [finOps, rawOps]
theorem fin_run (c : Cn) (wn : Bool) (tr : Value → Bool) : ∃ (lg : List Value) (fuel : Nat), lg.Sublist c.leaves ∧ fuel ≤ 2 * c.size + 10 ∧
    runA (finOps c wn) tr fuel 0 [] = some (if c.truth tr = wn then Str.ofString "stop" else Str.ofString "exit", [LI.num 1] ++ lg.map LI.cnd ++ [LI.num (if c.truth tr = wn then 3 else 2)]) := by
  have hel := emit_len c wn 0 1 [-1]
  have hlen : (draftE c wn).1.length = (c.emit wn 0 1 [-1]).1.length := rfl
  have get : ∀ i, (finOps c wn)[i + 1]? = (((draftE c wn).1 ++ [.doo 2, .stop (Str.ofString "exit"), .doo 3, .stop (Str.ofString "stop")])[i]?).map (Op.re (plc c wn)) := fun i => by
    simp only [finOps, rawOps, List.map_cons, List.getElem?_cons_succ, List.getElem?_map]
  obtain ⟨lg, k, hs, hk, hrun⟩ := emit_run (finOps c wn) tr (plc c wn) c wn 0 1 [-1] (fun i op e => by
      rw [Nat.add_comm, get, List.getElem?_append_left (show i < (draftE c wn).1.length from (List.getElem?_eq_some_iff.mp e).1)]
      show Option.map _ ((c.emit wn 0 1 [-1]).1[i]?) = _
      rw [e]; rfl) (fun j h1 h2 => by
      simp only [List.length_cons, List.length_nil] at h1
      simp only [plc, draftE]
      rw [List.getElem?_set_ne (by omega)])
  refine ⟨lg, 1 + (2 + k), hs, by omega, ?_⟩
  have h0 : (finOps c wn)[0]? = some (.doo 1) := rfl
  have hF : (plc c wn).getD ((0 : Int).toNat) 0 = ((draftE c wn).1.length + 3 : Nat) := by
    have : 0 < (draftE c wn).2.length := by
      have := hel.2.1
      simp only [List.length_cons, List.length_nil] at this
      exact this
    simp only [plc, List.getD_eq_getElem?_getD, Int.toNat_zero, List.getElem?_set_self this, Option.getD_some]
  rw [Nat.add_comm 1, runA, h0]
  simp only [List.nil_append]
  rw [hrun 2 [LI.num 1], hF]
  have after : ∀ (i : Nat) (op : Op), [Op.doo 2, .stop (Str.ofString "exit"), .doo 3, .stop (Str.ofString "stop")][i]? = some op → (finOps c wn)[(draftE c wn).1.length + i + 1]? = some (op.re (plc c wn)) := fun i op e => by
    rw [get, List.getElem?_append_right (by omega), Nat.add_sub_cancel_left, e]; rfl
  have a0 := after 0 _ rfl
  have a1 := after 1 _ rfl
  have a2 := after 2 _ rfl
  have a3 := after 3 _ rfl
  by_cases ht : c.truth tr = wn
  · simp only [ht, if_true]
    have e : (((draftE c wn).1.length + 3 : Nat) : Int).toNat = (draftE c wn).1.length + 2 + 1 := by omega
    rw [e, runA, a2]
    simp only [Op.re]
    rw [runA, show (draftE c wn).1.length + 2 + 1 + 1 = (draftE c wn).1.length + 3 + 1 from rfl, a3]
    rfl
  · simp only [ht, if_false]
    rw [show 1 + (c.emit wn 0 1 [-1]).1.length = (draftE c wn).1.length + 0 + 1 by rw [hlen]; omega, runA, a0]
    simp only [Op.re]
    rw [runA, show (draftE c wn).1.length + 0 + 1 + 1 = (draftE c wn).1.length + 1 + 1 from rfl, a1]
    rfl
end
theorem fresh_E1 : True ∧ True := by
  k_with_none
  (k_with "binaryOp Pow int int 1" => row_timed "fresh" (fail; (((with_reducible refine Mine.my_pow ?kb1 ?kb2 ?kb3 ?kb4 ?_); (case kb1 => decide); (case kb2 => decide); (case kb3 => first | decide | (with_reducible exact (Mine.pow3_bnd (PySem.W.fmod_lo _ (by decide)) (PySem.W.fmod_hi _ (by decide)) (by assumption) (by assumption)).1) | (with_reducible exact (Mine.pow5_bnd (by assumption) (by assumption)).1)); (case kb4 => first | decide | (with_reducible exact (Mine.pow3_bnd (PySem.W.fmod_lo _ (by decide)) (PySem.W.fmod_hi _ (by decide)) (by assumption) (by assumption)).2) | (with_reducible exact (Mine.pow5_bnd (by assumption) (by assumption)).2)); intro r' hr'))))
  (k_with "m:kroom" => row_timed "fresh" (fail; ((simp only [PyProof.Rows.depth_deeper, PySem.recursionLimit] at *; omega))))
  (k_with "m:zmem" => row_timed "fresh" (fail; (first | with_reducible exact List.Mem.head _ | (with_reducible refine' List.Mem.tail _ ?_; k_extra "m:zmem") | (with_reducible refine mapp_r ?_; k_extra "m:zmem") | (refine mapp_l ?_; assumption))))
  w_top off
  first | (walk1; done) | exact ⟨trivial, trivial⟩
section
section
variable {prog : Program} {w : World} {A : Around} {E : Value → Shared → Prop} {R : Result → Shared → Prop} {s : Shared}
theorem turn2_0 (elt t1 t2 i1 i2 : Expr) (scope : Scope) (pos : Pos) (it acc : Value) (env : Env) :
    compTurn (.ListComp elt [⟨t1, i1, [], 0⟩, ⟨t2, i2, [], 0⟩] scope pos) 0 it acc env = (standAt i1.pos >>= fun _ => pyNext it >>= fun r => match r with
      | none => pure (.done .next)
      | some v => letOwnedTupleGo t1 it v >>= fun _ => assign t1 env v >>= fun _ =>
        (eval i2 env >>= fun x => standAt i2.pos >>= fun _ => foldedSetIterable i2 env x >>= fun x => holding [x] (pyIter x) >>= fun it2 =>
          runOwn (.compStart (.ListComp elt [⟨t1, i1, [], 0⟩, ⟨t2, i2, [], 0⟩] scope pos) 1 it2 acc env) env >>= fun _ =>
          again (.compLoop (.ListComp elt [⟨t1, i1, [], 0⟩, ⟨t2, i2, [], 0⟩] scope pos) 0 it acc env))) := by rfl
theorem turn2_1 (elt t1 t2 i1 i2 : Expr) (scope : Scope) (pos : Pos) (it acc : Value) (env : Env) :
    compTurn (.ListComp elt [⟨t1, i1, [], 0⟩, ⟨t2, i2, [], 0⟩] scope pos) 1 it acc env = (standAt i2.pos >>= fun _ => pyNext it >>= fun r => match r with
      | none => pure (.done .next)
      | some v => letOwnedTupleGo t2 it v >>= fun _ => assign t2 env v >>= fun _ =>
        (eval elt env >>= fun x => call (.builtin "list.append") [acc, x] >>= fun _ => pure ()) >>= fun _ =>
          again (.compLoop (.ListComp elt [⟨t1, i1, [], 0⟩, ⟨t2, i2, [], 0⟩] scope pos) 1 it acc env)) := by rfl
theorem start2 {elt t1 t2 i1 i2 : Expr} {scope : Scope} {pos : Pos} {it acc : Value} {env : Env}
    (h0 : codeAny (model prog w) A (.compLoop (.ListComp elt [⟨t1, i1, [], 0⟩, ⟨t2, i2, [], 0⟩] scope pos) 1 it acc env) R s)
    (h : wpAny (model prog w) A (pyIter it) (fun it' s' => codeAny (model prog w) A (.compLoop (.ListComp elt [⟨t1, i1, [], 0⟩, ⟨t2, i2, [], 0⟩] scope pos) 1 it' acc env) R s') (notedBy (model prog w) A env fun x s' => R (.error x) s') s) :
    codeAny (model prog w) A (.compStart (.ListComp elt [⟨t1, i1, [], 0⟩, ⟨t2, i2, [], 0⟩] scope pos) 1 it acc env) R s := by
  refine codeAny_of_tree ?_
  show wpAny _ _ ((compStart (.ListComp elt [⟨t1, i1, [], 0⟩, ⟨t2, i2, [], 0⟩] scope pos) 1 it acc env).onRaise (fun x => do noteFrame x env; standAt theWindowsPlace)) _ _ s
  refine wpAny_notedAt ?_
  unfold compStart
  show wpAny _ _ (ask >>= _) _ _ s
  refine wpAny_bind (wpAny_askSetting (wpAny_ite ?_))
  split
  · first
      | exact wpAny_bind (wpAny_pure (wpAny_pure (And.intro rfl h0)))
      | exact wpAny_pure (And.intro rfl h0)
  · first
      | exact wpAny_bind (wpAny_rule (wpAny_bind (wpAny_standAt (wpAny_bind (wpAny_mono h (fun it' s' h' => wpAny_pure (And.intro rfl h')) fun _ _ x => x)))))
      | (refine wpAny_bind (wpAny_rule ?_); show wpAny _ _ (standAt i2.pos >>= _) _ _ s; exact wpAny_bind (wpAny_standAt (wpAny_bind (wpAny_mono h (fun it' s' h' => wpAny_pure (And.intro rfl h')) fun _ _ x => x))))
theorem loop2_1 {elt t1 t2 i1 i2 : Expr} {scope : Scope} {pos : Pos} {it acc : Value} {env : Env} (I : Nat → Shared → Prop)
    (turn : ∀ n s, I n s → wpAny (model prog w) A (pyNext it) (fun r s₁ => match r with
      | none => R (.ok .next) s₁
      | some v => wpAny (model prog w) A (assign t2 env v) (fun _ s₂ => wpAny (model prog w) A (eval elt env) (fun x s₃ =>
          wpAny (model prog w) A (call (.builtin "list.append") [acc, x]) (fun _ s₄ => ∃ m, m < n ∧ I m s₄) (notedBy (model prog w) A env fun e s' => R (.error e) s') s₃)
          (notedBy (model prog w) A env fun e s' => R (.error e) s') s₂) (notedBy (model prog w) A env fun e s' => R (.error e) s') s₁) (notedBy (model prog w) A env fun e s' => R (.error e) s') s)
    (n : Nat) (h : I n s) (ht : ∀ v, letOwnedTupleGo t2 it v = pure ()) :
    codeAny (model prog w) A (.compLoop (.ListComp elt [⟨t1, i1, [], 0⟩, ⟨t2, i2, [], 0⟩] scope pos) 1 it acc env) R s := by
  refine codeAny_loop rfl I (fun n s hI => ?_) n h
  show wpAny _ _ ((compTurn (.ListComp elt [⟨t1, i1, [], 0⟩, ⟨t2, i2, [], 0⟩] scope pos) 1 it acc env).onRaise (fun x => do noteFrame x env; theTreesLotGoes x)) _ _ s
  refine wpAny_noted ?_
  rw [turn2_1]
  refine wpAny_bind (wpAny_standAt (wpAny_bind (wpAny_mono (turn n s hI) (fun r s₁ h₁ => ?_) fun _ _ h' => h')))
  cases r with
  | none => exact wpAny_pure h₁
  | some v =>
    refine wpAny_bind (wpAny_of_eq (ht v) ?_)
    exact wpAny_bind (wpAny_mono h₁ (fun _ s₂ h₂ => wpAny_bind (wpAny_bind (wpAny_mono h₂ (fun x s₃ h₃ => wpAny_bind (wpAny_mono h₃
      (fun _ s₄ h₄ => wpAny_pure (wpAny_pure ⟨rfl, h₄⟩)) fun _ _ h' => h')) fun _ _ h' => h'))) fun _ _ h' => h')
theorem loop2_0 {elt t1 t2 i1 i2 : Expr} {scope : Scope} {pos : Pos} {it acc : Value} {env : Env} (I : Nat → Shared → Prop)
    (turn : ∀ n s, I n s → wpAny (model prog w) A (pyNext it) (fun r s₁ => match r with
      | none => R (.ok .next) s₁
      | some v => wpAny (model prog w) A (assign t1 env v) (fun _ s₂ => wpAny (model prog w) A (eval i2 env) (fun x s₃ =>
          wpAny (model prog w) A (pyIter x) (fun it2 s₄ => codeAny (model prog w) (A.mark none) (.compStart (.ListComp elt [⟨t1, i1, [], 0⟩, ⟨t2, i2, [], 0⟩] scope pos) 1 it2 acc env)
            (fun r s₅ => match r with | .ok _ => ∃ m, m < n ∧ I m s₅ | .error _ => False) s₄) (notedBy (model prog w) A env fun e s' => R (.error e) s') s₃)
          (notedBy (model prog w) A env fun e s' => R (.error e) s') s₂) (notedBy (model prog w) A env fun e s' => R (.error e) s') s₁) (notedBy (model prog w) A env fun e s' => R (.error e) s') s)
    (n : Nat) (h : I n s) (ht : ∀ v, letOwnedTupleGo t1 it v = pure ()) (hs : ∀ x, foldedSetIterable i2 env x = pure x) :
    codeAny (model prog w) A (.compLoop (.ListComp elt [⟨t1, i1, [], 0⟩, ⟨t2, i2, [], 0⟩] scope pos) 0 it acc env) R s := by
  refine codeAny_loop rfl I (fun n s hI => ?_) n h
  show wpAny _ A ((compTurn (.ListComp elt [⟨t1, i1, [], 0⟩, ⟨t2, i2, [], 0⟩] scope pos) 0 it acc env).onRaise (fun x => do noteFrame x env; theTreesLotGoes x)) _ _ s
  refine wpAny_noted ?_
  rw [turn2_0]
  refine wpAny_bind (wpAny_standAt (wpAny_bind (wpAny_mono (turn n s hI) (fun r s₁ h₁ => ?_) fun _ _ h' => h')))
  cases r with
  | none => exact wpAny_pure h₁
  | some v =>
    refine wpAny_bind (wpAny_of_eq (ht v) ?_)
    refine wpAny_bind (wpAny_mono h₁ (fun _ s₂ h₂ => wpAny_bind (wpAny_mono h₂ (fun x s₃ h₃ => wpAny_bind (wpAny_standAt (wpAny_bind (wpAny_of_eq (hs x) ?_)))) fun _ _ h' => h')) fun _ _ h' => h')
    refine wpAny_bind (wpAny_holding (wpAny_mono h₃ (fun it2 s₄ h₄ => wpAny_bind (wpAny_runOwn (codeAny_mono h₄ fun r s₅ h₅ => ?_) (by intro x; cases x))) fun _ _ h' => h'))
    cases r with
    | ok f => exact wpAny_pure ⟨rfl, h₅⟩
    | error e => exact h₅.elim
def flat2 (outs : Nat → List Value) : Nat → List Value
  | 0 => []
  | i + 1 => flat2 outs i ++ outs i
def C2Src (prog : Program) (w : World) (A : Around) (h₀ : Heap) (L : Addr) (m : Str → Option Value) (env : Env) (i2 : Expr) (x : Str) (scope : Scope) (cl : List (Str × Addr)) (Q : Value → Shared → Prop) (xv : Value) (s₁ : Shared) : Prop :=
  ∃ T its n news outs, xv = .ref T ∧ A.handled = none ∧ Fr h₀ L s₁.heap m ∧ News h₀ L s₁.heap news ∧ (T, tupOf its n) ∈ news ∧ its.size ≤ 1000 ∧ (∀ i, (outs i).length ≤ 1000) ∧ (∀ i, i ≤ its.size → (flat2 outs i).length + 1000 ≤ 5000) ∧
    (∀ i v I oI C oC D oD m₂ h tk (E' : Value → Shared → Prop), its[i]? = some v → LCg.NsObj oC m₂ → m₂ x = some v → Fr h₀ L h m → News h₀ L h ((I, oI) :: (C, oC) :: (D, oD) :: news) → LCg.Off3 I C D news → ((@Ne Nat I C) ∧ (@Ne Nat I D) ∧ (@Ne Nat C D)) →
      wpAny (model prog w) A (eval i2 (compEnvC scope cl C env)) (fun r s₂ => ∃ h' tk' l, s₂ = { s₁ with heap := h', toks := tk' } ∧ Fr h₀ L h' m ∧ News h₀ L h' ((I, oI) :: (C, oC) :: (D, oD) :: news) ∧ r = .ref l ∧ h'.IsList l (outs i).toArray ∧ l ≠ D) E' { s₁ with heap := h, toks := tk }) ∧
    (∀ D h tk, Fr h₀ L h m → News h₀ L h ((D, LCg.lst (flat2 outs its.size)) :: news) → LCg.Off1 D news → Q (.ref D) { s₁ with heap := h, toks := tk })
end
section
variable {prog : Program} {w : World} {A : Around} {E : Value → Shared → Prop} {s : Shared} {h₀ : Heap} {L : Addr} {m : Str → Option Value} {env : Env}
theorem inner2 {t1 i1 i2 : Expr} {y : Str} {py yp : Pos} {scope : Scope} {pos : Pos} {cl : List (Str × Addr)} {s₁ : Shared} {I T l C D : Addr} {its : Array Value} {k n : Nat} {os ys : List Value} {m' : Str → Option Value} {news : List (Addr × Obj)} {tk : Nat} {h : Heap} {R : Result → Shared → Prop}
    (hh : A.handled = none) (hy : scope.names.lookup y = some .local) (hkind : scope.kind = .function) (hyd : (y == ("__debug__" : Str)) = false)
    (F : Fr h₀ L h m) (hn : h.Ns C m') (N : News h₀ L h ((D, LCg.lst ys) :: news)) (hT : (T, tupOf its n) ∈ news) (hI : h.IsTupleIter I T k) (hl : h.IsList l os.toArray) (hlD : l ≠ D) (hIL : L ≠ I) (hI0 : h₀.get? I = none) (hC0 : h₀.get? C = none) (hD0 : h₀.get? D = none) (hCL : C ≠ L) (hDL : D ≠ L) (hCD : C ≠ D)
    (off : LCg.Off3 I C D news) (hIC : I ≠ C) (hID : I ≠ D) (hsz : ys.length + os.length ≤ 5000)
    (hR : ∀ h' tk' m'', Fr h₀ L h' m → h'.Ns C m'' → News h₀ L h' ((D, LCg.lst (ys ++ os)) :: news) → h'.IsTupleIter I T k → R (.ok .next) { s₁ with heap := h', toks := tk' }) :
    wpAny (model prog w) A (pyIter (.ref l)) (fun it2 s₄ => codeAny (model prog w) (A.mark none) (.compStart (.ListComp (.Name y yp) [⟨t1, i1, [], 0⟩, ⟨.Name y py, i2, [], 0⟩] scope pos) 1 it2 (.ref D) (compEnvC scope cl C env)) R s₄) E { s₁ with heap := h, toks := tk } := by
  have hlt : l < h.objs.size := by obtain ⟨_, e, _⟩ := hl; exact Heap.lt_size e
  refine wpAny_pyIter_list hl ?_
  have up : ∀ b o, h.get? b = some o → (h.push { cls := .type "list_iterator", data := .fields #[.ref l, .int 0 0] }).get? b = some o := fun b o e => Heap.get?_push_of_some _ e
  have W := Walks.list (prog := prog) (w := w) (A := A.mark none) hh h.objs.size l (Nat.ne_of_lt hlt) os.toArray
  have lt : ∀ b o, h.get? b = some o → b ≠ h.objs.size := fun b o e => Nat.ne_of_lt (Heap.lt_size e)
  have hJ0 : h₀.get? h.objs.size = none := next_is_new F
  have hLJ : L ≠ h.objs.size := Nat.ne_of_lt F.ns.lt
  have hIJ : I ≠ h.objs.size := by obtain ⟨o, e, _⟩ := hI; exact lt _ o e
  have hCJ : C ≠ h.objs.size := by obtain ⟨o, _, _, e, _⟩ := hn; exact lt _ o e
  have hDJ : D ≠ h.objs.size := lt _ _ (N.get (.head _))
  have hlC : l ≠ C := by
    obtain ⟨o, e, hc, _, hd⟩ := hl
    obtain ⟨o', es, ep, e', hd', _⟩ := hn
    intro q; subst q
    rw [e] at e'; cases e'; rw [hd] at hd'; cases hd'
  have offJ : ∀ q ∈ news, q.1 ≠ h.objs.size := fun q hq => lt _ _ (N.get (.tail _ hq))
  have off3 := off.mem
  have hTf := off3 _ hT
  have hTJ := offJ _ hT
  have loop : codeAny (model prog w) (A.mark none) (.compLoop (.ListComp (.Name y yp) [⟨t1, i1, [], 0⟩, ⟨.Name y py, i2, [], 0⟩] scope pos) 1 (.ref h.objs.size) (.ref D) (compEnvC scope cl C env)) R { s₁ with heap := h.push { cls := .type "list_iterator", data := .fields #[.ref l, .int 0 0] }, toks := tk } := by
    refine loop2_1 (fun kk s' => ∃ h' tk' j m'', s' = { s₁ with heap := h', toks := tk' } ∧ j ≤ os.length ∧ kk = os.length + 1 - j ∧ (h'.IsListIter h.objs.size l j ∧ h'.IsList l os.toArray) ∧ Fr h₀ L h' m ∧ h'.Ns C m'' ∧ News h₀ L h' ((D, LCg.lst (ys ++ os.take j)) :: news) ∧ h'.IsTupleIter I T k)
      ?_ (os.length + 1) ⟨_, _, 0, m', rfl, Nat.zero_le _, rfl, ⟨⟨_, Heap.get?_push_size _ rfl, rfl, rfl⟩, hl.push _⟩, F.keeps up, hn.at' fun o e => up _ o e, by rw [List.take_zero, List.append_nil]; exact N.grown up, hI.at fun o e => up _ o e⟩ (fun _ => rfl)
    rintro kk s' ⟨h', tk', j, m'', rfl, hj, rfl, st, F', hn', N', hI'⟩
    have hD' := N'.get (.head _)
    by_cases hlt : j < os.length
    · refine W.item j _ _ _ (by simpa using hlt) st fun v h₂ tk₂ hPv st₂ hk₂ => ?_
      have nJ : ∀ b, b ≠ h.objs.size → b ∉ [h.objs.size] := fun b q hm => q (List.mem_singleton.mp hm)
      refine wpAny_assign_Name (wpAny_storeName_local (lookup_relabel_local hy) (hn'.at' fun o e => hk₂ _ o (nJ _ hCJ) e) (fun h₃ hn₃ hs₃ => ?_) (by simp [compEnvC, relabel, hkind]))
      refine wpAny_Name (wpAny_loadName_local (by simp [compEnvC, relabel, hkind]) (lookup_relabel_local hy) hn₃ (by simp; rfl) ?_) hyd
      have keep3 : ∀ b o, b ≠ h.objs.size → b ≠ C → h'.get? b = some o → h₃.get? b = some o := fun b o q1 q2 e => hs₃.extBut b o q2 (hk₂ b o (nJ _ q1) e)
      refine append_at (keep3 _ _ hDJ (Ne.symm hCD) hD') (fun h₅ hs₅ hD₅ => ?_) (by simp only [List.size_toArray, List.length_append, List.length_take, sizeLine]; omega)
      have keep5 : ∀ b o, b ≠ h.objs.size → b ≠ C → b ≠ D → h'.get? b = some o → h₅.get? b = some o := fun b o q1 q2 q3 e => hs₅.extBut b o q3 (keep3 b o q1 q2 e)
      have hv : os[j]? = some v := by simpa using hPv
      refine ⟨os.length + 1 - (j + 1), by omega, h₅, _, j + 1, _, rfl, hlt, rfl, W.frame _ _ _ st₂ fun b hb o e => ?_, ?_, hn₃.sameBut hs₅ hCD, ?_, hI'.at fun o e => keep5 _ o hIJ hIC hID e⟩
      · refine hs₅.extBut b o ?_ (hs₃.extBut b o ?_ e)
        · rcases List.mem_cons.mp hb with rfl | hb
          · exact Ne.symm hDJ
          · rw [List.mem_singleton.mp hb]; exact hlD
        · rcases List.mem_cons.mp hb with rfl | hb
          · exact Ne.symm hCJ
          · rw [List.mem_singleton.mp hb]; exact hlC
      · exact ((LCg.fr_but F' hk₂ hLJ hJ0).change hs₃ hCL hC0).change hs₅ hDL hD0
      · intro q hq
        rcases List.mem_cons.mp hq with rfl | hq
        · refine ⟨?_, hDL, hD0⟩
          rw [hD₅, List.take_succ, hv]
          have := LCg.lst_snoc (ys ++ os.take j) v
          rw [List.append_assoc] at this
          exact congrArg some this
        · have z := N' q (.tail _ hq)
          exact ⟨keep5 _ _ (offJ _ hq) (off3 _ hq).2.1 (off3 _ hq).2.2 z.1, z.2⟩
    · obtain rfl : j = os.length := Nat.le_antisymm hj (Nat.not_lt.mp hlt)
      have st' : h'.IsListIter h.objs.size l os.toArray.size ∧ h'.IsList l os.toArray := by simpa using st
      refine W.done _ _ _ st' fun h₂ tk₂ hk₂ => ?_
      have nJ : ∀ b, b ≠ h.objs.size → b ∉ [h.objs.size] := fun b q hm => q (List.mem_singleton.mp hm)
      refine hR h₂ tk₂ m'' (LCg.fr_but F' hk₂ hLJ hJ0) (hn'.at' fun o e => hk₂ _ o (nJ _ hCJ) e) ?_ (hI'.at fun o e => hk₂ _ o (nJ _ hIJ) e)
      rw [List.take_length] at N'
      refine LCg.news_but N' hk₂ fun q hq => ?_
      rcases List.mem_cons.mp hq with rfl | hq
      · exact hDJ
      · exact offJ _ hq
  exact start2 loop (W.self 0 _ _ _ ⟨⟨_, Heap.get?_push_size _ rfl, rfl, rfl⟩, hl.push _⟩ loop)
theorem comp2 {iter i2 : Expr} {x y : Str} {px py yp : Pos} {scope : Scope} {cl : List (Str × Addr)} {pos : Pos} {Q : Value → Shared → Prop} (F₀ : Fr h₀ L s.heap m)
    (hclos : closureFor scope env = pure cl) (hcell : ∀ y ∈ scope.names, y.2 ≠ .cell) (hkind : scope.kind = .function)
    (hnames : ∀ y ∈ scope.names, y.2 = .local → scope.names.lookup y.1 = some .local) (hx : scope.names.lookup x = some .local) (hy : scope.names.lookup y = some .local) (hyd : (y == ("__debug__" : Str)) = false)
    (h : wpAny (model prog w) A (eval iter env) (fun v s₁ => Hold (C2Src prog w A h₀ L m env i2 x scope cl Q v s₁)) E s)
    (hs : ∀ x, foldedSetIterable iter env x = pure x) (hs2 : ∀ env x, foldedSetIterable i2 env x = pure x) :
    wpAny (model prog w) A (eval (.ListComp (.Name y yp) [⟨.Name x px, iter, [], 0⟩, ⟨.Name y py, i2, [], 0⟩] scope pos) env) Q E s := by
  rw [eval_ListComp]
  refine wpAny_comprehension_free (use := none) rfl hs hclos hkind hnames (wpAny_mono h (fun xv s₁ h₁ => ?_) fun _ _ e => e)
  obtain ⟨T, its, n, news, outs, rfl, hh, F, N, hT, hsz, ho1, ho2, inner, fin⟩ := h₁
  have hTt : s₁.heap.IsTuple T its := ⟨_, N.get hT, rfl, _, rfl⟩
  have hTlt : T < s₁.heap.objs.size := Heap.lt_size (N.get hT)
  refine wpAny_pyIter_tuple hTt ?_
  have hI0 : h₀.get? s₁.heap.objs.size = none := next_is_new F
  have hIL : L ≠ s₁.heap.objs.size := Nat.ne_of_lt F.ns.lt
  generalize hI : s₁.heap.objs.size = I at *
  have W := Walks.tuple (prog := prog) (w := w) (A := A) hh I T (Nat.ne_of_lt hTlt) its
  have up1 : ∀ b o, s₁.heap.get? b = some o → (s₁.heap.push { cls := .type "tuple_iterator", data := .fields #[.ref T, .int 0 0] }).get? b = some o := fun b o e => Heap.get?_push_of_some _ e
  have F1 := F.keeps up1
  have N1 := N.grown up1
  have st1 : (s₁.heap.push { cls := .type "tuple_iterator", data := .fields #[.ref T, .int 0 0] }).IsTupleIter I T 0 ∧ (s₁.heap.push { cls := .type "tuple_iterator", data := .fields #[.ref T, .int 0 0] }).IsTuple T its := ⟨⟨_, by rw [← hI]; exact Heap.get?_push_size _ rfl, rfl, rfl⟩, ⟨_, up1 _ _ (N.get hT), rfl, _, rfl⟩⟩
  have offI : ∀ q ∈ news, q.1 ≠ I := fun q hq => by rw [← hI]; exact Nat.ne_of_lt (Heap.lt_size (N.get hq))
  have hIlt : I < (s₁.heap.push { cls := .type "tuple_iterator", data := .fields #[.ref T, .int 0 0] }).objs.size := by rw [Heap.size_push, hI]; exact Nat.lt_succ_self _
  generalize s₁.heap.push { cls := .type "tuple_iterator", data := .fields #[.ref T, .int 0 0] } = g1 at *
  refine wpAny_newObj_type (wpAny_newFunctionEnv hcell (by intro y hy; simp at hy) (fun h₁ hns₁ hsb₁ => ?_) hkind)
  dsimp only at hns₁ hsb₁ ⊢
  have hD0 : h₀.get? g1.objs.size = none := next_is_new F1
  have hDL : g1.objs.size ≠ L := Ne.symm (Nat.ne_of_lt F1.ns.lt)
  have lt1 : ∀ b o, g1.get? b = some o → b ≠ g1.objs.size := fun b o e => Nat.ne_of_lt (Heap.lt_size e)
  generalize hH2 : g1.push { cls := .type "list", dict := none, data := .seq ([] : List Value).toArray } = H2 at hns₁ hsb₁ ⊢
  have up2 : ∀ b o, g1.get? b = some o → H2.get? b = some o := fun b o e => hH2 ▸ Heap.get?_push_of_some _ e
  have hD2 : H2.get? g1.objs.size = some (LCg.lst []) := hH2 ▸ Heap.get?_push_size _ rfl
  have F2 := F1.keeps up2
  have N2 := N1.grown up2
  have hC0 : h₀.get? H2.objs.size = none := next_is_new F2
  have hCL : H2.objs.size ≠ L := Ne.symm (Nat.ne_of_lt F2.ns.lt)
  have lt2 : ∀ b o, H2.get? b = some o → b ≠ H2.objs.size := fun b o e => Nat.ne_of_lt (Heap.lt_size e)
  have hDC : g1.objs.size ≠ H2.objs.size := lt2 _ _ hD2
  have hIC : I ≠ H2.objs.size := Nat.ne_of_lt (by rw [← hH2, Heap.size_push]; exact Nat.lt_succ_of_lt hIlt)
  have hID : I ≠ g1.objs.size := Nat.ne_of_lt hIlt
  have old : ∀ b o, g1.get? b = some o → h₁.get? b = some o := fun b o e => hsb₁.extBut b o (lt2 _ _ (up2 _ _ e)) (Heap.get?_push_of_some _ (up2 _ _ e))
  have hacc : h₁.get? g1.objs.size = some (LCg.lst []) := hsb₁.extBut _ _ hDC (Heap.get?_push_of_some _ hD2)
  have off : LCg.Off3 I H2.objs.size g1.objs.size news := LCg.Off3.of fun q hq => ⟨offI q hq, lt2 _ _ (N2.get hq), lt1 _ _ (N1.get hq)⟩
  generalize hDe : g1.objs.size = D at *
  generalize hCe : H2.objs.size = C at *
  have off3 := off.mem
  have loop : ∀ s₃ : Shared, s₃ = { s₁ with heap := h₁, toks := s₁.toks + ([] : List (Str × Value)).length } →
      codeAny (model prog w) A (.compLoop (.ListComp (.Name y yp) [⟨.Name x px, iter, [], 0⟩, ⟨.Name y py, i2, [], 0⟩] scope pos) 0 (.ref I) (.ref D) (compEnvC scope cl C env)) (compPost (model prog w) A E none Q (.ref D) C) s₃ := by
    rintro s₃ rfl
    refine loop2_0 (fun kk s' => ∃ h' tk' j m'', s' = { s₁ with heap := h', toks := tk' } ∧ j ≤ its.size ∧ kk = its.size + 1 - j ∧ (h'.IsTupleIter I T j ∧ h'.IsTuple T its) ∧ Fr h₀ L h' m ∧ h'.Ns C m'' ∧ News h₀ L h' ((D, LCg.lst (flat2 outs j)) :: news))
      ?_ (its.size + 1) ⟨h₁, _, 0, _, rfl, Nat.zero_le _, rfl, ⟨st1.1.at fun o e => old _ o e, st1.2.at fun o e => old _ o e⟩, F1.keeps old, hns₁, fun q hq => ?_⟩ (fun _ => rfl) (fun v => hs2 _ v)
    · rintro kk s' ⟨h', tk', j, m'', rfl, hj, rfl, st, F', hn', N'⟩
      have nI : ∀ b, b ≠ I → b ∉ [I] := fun b q hm => q (List.mem_singleton.mp hm)
      by_cases hlt : j < its.size
      · refine W.item j _ _ _ hlt st fun v h₂ tk₂ hPv st₂ hk₂ => ?_
        refine wpAny_assign_Name (wpAny_storeName_local (lookup_relabel_local hx) (hn'.at' fun o e => hk₂ _ o (nI _ (Ne.symm hIC)) e) (fun h₃ hn₃ hs₃ => ?_) (by simp [compEnvC, relabel, hkind]))
        have F₃ : Fr h₀ L h₃ m := (LCg.fr_but F' hk₂ hIL hI0).change hs₃ hCL hC0
        have keep3 : ∀ b o, b ≠ I → b ≠ C → h'.get? b = some o → h₃.get? b = some o := fun b o q1 q2 e => hs₃.extBut b o q2 (hk₂ b o (nI _ q1) e)
        have hI3 : h₃.IsTupleIter I T (j + 1) := st₂.1.at fun o e => hs₃.extBut _ _ hIC e
        obtain ⟨oI, heI, hcI, hdI⟩ := id hI3
        obtain ⟨oC, heC, hoC⟩ := LCg.ns_obj hn₃
        have N₃ : News h₀ L h₃ ((I, oI) :: (C, oC) :: (D, LCg.lst (flat2 outs j)) :: news) := by
          intro q hq
          rcases List.mem_cons.mp hq with rfl | hq
          · exact ⟨heI, Ne.symm hIL, hI0⟩
          · rcases List.mem_cons.mp hq with rfl | hq
            · exact ⟨heC, hCL, hC0⟩
            · have z := N' q hq
              refine ⟨keep3 _ _ ?_ ?_ z.1, z.2⟩
              · rcases List.mem_cons.mp hq with rfl | hq
                · exact Ne.symm hID
                · exact (off3 q hq).1
              · rcases List.mem_cons.mp hq with rfl | hq
                · exact hDC
                · exact (off3 q hq).2.1
        refine wpAny_mono (inner j v I oI C oC D _ _ h₃ _ _ hPv hoC (by simp) F₃ N₃ off ⟨hIC, hID, Ne.symm hDC⟩) (fun r s₄ h₄ => ?_) fun _ _ e => e
        obtain ⟨h₄, tk₄, l, rfl, F₄, N₄, rfl, hl, hlD⟩ := h₄
        have hn₄ : h₄.Ns C _ := hoC.ns (N₄.get (.tail _ (.head _)))
        have hI₄ : h₄.IsTupleIter I T (j + 1) := ⟨_, N₄.get (.head _), hcI, hdI⟩
        refine inner2 hh hy hkind hyd F₄ hn₄ (fun q hq => N₄ q (.tail _ (.tail _ hq))) hT hI₄ hl hlD hIL hI0 hC0 hD0 hCL hDL (Ne.symm hDC) off hIC hID (by have := ho1 j; have := ho2 j hj; omega) fun h₅ tk₅ m₅ F₅ hn₅ N₅ hI₅ => ?_
        exact ⟨its.size + 1 - (j + 1), by omega, h₅, tk₅, j + 1, m₅, rfl, hlt, rfl, ⟨hI₅, ⟨_, N₅.get (.tail _ hT), rfl, _, rfl⟩⟩, F₅, hn₅, N₅⟩
      · obtain rfl : j = its.size := Nat.le_antisymm hj (Nat.not_lt.mp hlt)
        refine W.done _ _ _ st fun h₂ tk₂ hk₂ => ?_
        have hn₂ : h₂.Ns C m'' := hn'.at' fun o e => hk₂ _ o (nI _ (Ne.symm hIC)) e
        have F₂ := LCg.fr_but F' hk₂ hIL hI0
        have N₂ : News h₀ L h₂ _ := LCg.news_but N' hk₂ fun q hq => by
          rcases List.mem_cons.mp hq with rfl | hq
          · exact Ne.symm hID
          · exact offI q hq
        refine ⟨m'', hn₂, fun h₃ hs₃ => fin D h₃ tk₂ (F₂.change hs₃ hCL hC0) (fun q hq => ?_) off.one⟩
        refine ⟨hs₃.extBut _ _ ?_ (N₂ q hq).1, (N₂ q hq).2⟩
        rcases List.mem_cons.mp hq with rfl | hq
        · exact hDC
        · exact (off3 q hq).2.1
    · rcases List.mem_cons.mp hq with rfl | hq
      · exact ⟨hacc, hDL, hD0⟩
      · exact ⟨old _ _ (N1.get hq), (N1 q hq).2⟩
  refine codeAny_compStart_list (loop _ rfl) (W.self 0 _ _ _ ⟨st1.1.at fun o e => old _ o e, st1.2.at fun o e => old _ o e⟩ (loop _ rfl))
end
end
theorem fresh_E2 : True ∧ True := by
  k_with_none
  (k_with "binaryOp Pow int int 1" => row_timed "fresh" (fail; (((with_reducible refine Mine.my_pow ?kb1 ?kb2 ?kb3 ?kb4 ?_); (case kb1 => decide); (case kb2 => decide); (case kb3 => first | decide | (with_reducible exact (Mine.pow3_bnd (PySem.W.fmod_lo _ (by decide)) (PySem.W.fmod_hi _ (by decide)) (by assumption) (by assumption)).1) | (with_reducible exact (Mine.pow5_bnd (by assumption) (by assumption)).1)); (case kb4 => first | decide | (with_reducible exact (Mine.pow3_bnd (PySem.W.fmod_lo _ (by decide)) (PySem.W.fmod_hi _ (by decide)) (by assumption) (by assumption)).2) | (with_reducible exact (Mine.pow5_bnd (by assumption) (by assumption)).2)); intro r' hr'))))
  (k_with "m:kroom" => row_timed "fresh" (fail; ((simp only [PyProof.Rows.depth_deeper, PySem.recursionLimit] at *; omega))))
  (k_with "m:zmem" => row_timed "fresh" (fail; (first | with_reducible exact List.Mem.head _ | (with_reducible refine' List.Mem.tail _ ?_; k_extra "m:zmem") | (with_reducible refine mapp_r ?_; k_extra "m:zmem") | (refine mapp_l ?_; assumption))))
  w_top off
  first | (walk1; done) | exact ⟨trivial, trivial⟩
section
theorem word_18 : True := by
  (k_with "m:room" => row_timed "fresh" (fail; (((try simp only [depth_deeper, units_deeper, AT_depth, AT_units]); omega))))
  (k_with "subscriptTail 1" => row_timed "fresh" (fail; (((with_reducible show wpAny _ _ (subscriptTail _ _ (Value.ref _) (Value.int _ _)) _ _ _); k_dflt (refine' item_tupleT ?t ?a ?b ?c ?d ?_; (case t => exact tup_base (by k_asm) (by k_asm)); (case a => decide); (case b => decide); (case c => rfl); (case d => rfl); k_whole)))))
  (k_with "eval ListComp" => row_timed "fresh" (fail; ((k_dflt (refine' comp2 ?F ?cl ?cell ?kind ?names ?x ?y ?yd ?_ ?hs ?hs2; (case F => k_asm); (case cl => exact rfl); (case cell => decide); (case kind => exact rfl); (case names => decide); (case x => exact rfl); (case y => exact rfl); (case yd => decide); (case hs => exact fun _ => rfl); (case hs2 => exact fun _ _ => rfl)); try dsimp only))))
  (k_with "subscriptTail Name Slice ref ref" => row_timed "fresh" (fail; (((with_reducible show wpAny _ _ (subscriptTail _ _ (Value.ref _) (Value.ref _)) _ _ _); (with_unfolding_all refine slice_tuple_from (a := 1) (by assumption) (by assumption) (tup_base (by assumption) (by assumption)) (by decide) (Nat.le_of_ble_eq_true rfl) ?_ (hsz := Nat.le_of_ble_eq_true rfl)); intro h' F' N'; (try k_sweep)))))
  trivial
def SimpPost (s : Shared) (c : Cn) (h : Heap) (r : Value) : Prop := ∃ l n, r = .ref l ∧ h.get? l = some (W.listOf c.leaves.toArray n) ∧ s.heap.get? l = none
def SimpOk (w : World) (c : Cn) : Prop :=
  ∀ {d u : Nat} {s : Shared} {hb : Heap} {p : Program} {loose : List Str} {mean : ExcName → Option Value} {mg mb : Str → Option Value}
    (_ : (hd.heap_1 w.params).In hb) (_ : Top p loose mean mg mb hb) (_ : hb.StaysIn s.heap) (v : Value)
    (_ : CnAt (fun b ob => s.heap.get? b = some ob) v c) (_ : c.size ≤ 100) (_ : d + c.deep + 30 ≤ 800) (_ : u + 10 * c.deep + 50 ≤ 4000), Fn w (AT d u) s 539 [v] [] (SimpPost s c)
theorem simp_use {w : World} {c : Cn} (H : SimpOk w c) {p : Program} {loose : List Str} {mean : ExcName → Option Value} {mg mb : Str → Option Value} {A : Around} {s : Shared} {g : Heap} {L : Addr} {m : Str → Option Value} {Q : Value → Shared → Prop} {E : Value → Shared → Prop} {news : List (Addr × Obj)} {v : Value}
    (X : (hd.heap_1 w.params).In g) (T : Top p loose mean mg mb g) (hh : A.handled = none) (hd : A.depth + c.deep + 30 ≤ 800) (hu : A.units + 10 * c.deep + 50 ≤ 4000) (F : Fr g L s.heap m) (N : News g L s.heap news)
    (hc : CnAt (fun b ob => s.heap.get? b = some ob) v c) (hsz : c.size ≤ 100)
    (h : ∀ l n h' tk, Fr g L h' m → News g L h' ((l, W.listOf c.leaves.toArray n) :: news) → (∀ q ∈ news, q.1 ≠ l) → Q (.ref l) { s with heap := h', toks := tk }) :
    wpAny (model PySem.Challenge.rw_pq0617_01.row.prog w) A (call (.ref 539) [v]) Q E s := by
  refine use2 (d := A.depth) (u := A.units) (H X T F.keep v hc hsz hd hu) hh (Nat.le_refl _) (Nat.le_refl _) F N (fun _ h => nomatch h) ?_
  rintro _ h' tk F' k1 k2 ⟨l, n, rfl, hl, hf⟩
  refine h l n h' tk F' (news_cons (k2 _ hl (.inr hf)) (news_all fun q hq => k1 q hq fun h => nomatch h)) fun q hq e => ?_
  rw [← e, (N q hq).1] at hf; cases hf
theorem leaves_len : ∀ c : Cn, c.leaves.length ≤ c.size
  | .leaf _ _ => Nat.le_refl _
  | .neg c => Nat.le_trans (leaves_len c) (Nat.le_succ _)
  | .con _ a b => by have := leaves_len a; have := leaves_len b; simp only [Cn.leaves, Cn.size, List.length_append]; omega
theorem word_19 : True := by
  (k_with "call ref 1" => row_timed "fresh" (fail; (((show wpAny _ _ (call (Value.ref 539) [_]) _ _ _); refine' simp_use ?H ?X ?T ?hh ?hd ?hu ?F ?N ?hc ?hsz ?_; (case F => k_asm); (case hc => exact CnAt.mono (by assumption) (Fr.keep (by k_asm))); (case H => assumption); (case X => k_asm); (case T => k_asm); (case hh => rfl); (case hd => k_extra "m:room"); (case hu => k_extra "m:room"); (case N => k_asm); (case hsz => omega); intro l n h' tk' F' N' hl; (try k_sweep); (try dsimp only)))))
  trivial
set_option maxHeartbeats 4000000 in
theorem simp_step (w : World) (c : Cn) (ih : ∀ c', c'.size < c.size → SimpOk w c') : SimpOk w c := by
  intro d u s hb p loose mean mg mb X T hK v hc hsz hD hU
  refine enter (K := hd.heap_1 w.params) (binds := [(Str.ofString "cond", v)]) [] X T hK (fun _ h => nomatch h) (by k_is) (by k_is) (by simp only [recursionLimit]; omega) (BindsTo.of_eq rfl) (locs rfl) ?_ rfl rfl rfl (by decide)
  intro g' L' h' Kg F' N' l1 X' T' S'
  have tup : ∀ {b : Addr} {vs : Array Value} {n : Nat}, s.heap.get? b = some (tupOf vs n) → g'.get? b = some (tupOf vs n) := fun e => Kg _ _ e (fun h => nomatch h)
  cases hc with
  | @neg a v c n t ha hc =>
    have hag := tup ha
    have hc' : CnAt (fun b ob => g'.get? b = some ob) v c := hc.monoT fun a vs n e => tup e
    have H1 : SimpOk w c := ih c (by simp only [Cn.size]; omega)
    clear hc ih
    simp only [Cn.size, Cn.deep] at hsz hD hU
    show wpAny _ _ _ _ _ _
    k_fold
    w_strict (k_steps)
    unfold Hold
    have hsl := leaves_len c
    refine ⟨_, _, _, _, (fun i => [c.leaves].getD i []), rfl, rfl, by assumption, by assumption, .head _, Nat.le_of_ble_eq_true rfl, ?_, ?_, ?_, ?_⟩
    · rintro (_ | i)
      · show c.leaves.length ≤ 1000
        omega
      · exact Nat.zero_le _
    · rintro (_ | _ | i) hi
      · exact Nat.le_of_ble_eq_true rfl
      · show ([] ++ c.leaves).length + 1000 ≤ 5000
        simp only [List.nil_append]; omega
      · exact absurd hi (by simp)
    · rintro (_ | i) v2 I oI C oC D oD m₂ h tk E' hv hoC hm F9 N9 off ne
      · cases hv
        show wpAny _ _ _ _ _ _
        w_strict (k_steps)
        · assumption
        · rename_i N' hl
          exact news_sub N' fun q hq => .tail _ hq
        · rename_i N' hl
          exact ⟨_, News.get N' (.head _), rfl, _, rfl⟩
        · rename_i N' hl
          exact Ne.symm (hl _ (.tail _ (.tail _ (.head _))))
      · cases hv
    · intro D h tk F N off
      (try dsimp only)
      w_strict (k_steps)
      show BodyEnd _ _ _ _ _
      exact ⟨_, _, rfl, Fr.keep (by assumption), _, _, rfl, News.get N (.head _), fresh_in Kg N (.head _) (fun h => nomatch h)⟩
  | @con a v1 v2 c1 c2 ob n t ha h1 h2 =>
    have hag := tup ha
    have h1' : CnAt (fun b ob => g'.get? b = some ob) v1 c1 := h1.monoT fun a vs n e => tup e
    have h2' : CnAt (fun b ob => g'.get? b = some ob) v2 c2 := h2.monoT fun a vs n e => tup e
    have H1 : SimpOk w c1 := ih c1 (by simp only [Cn.size]; omega)
    have H2 : SimpOk w c2 := ih c2 (by simp only [Cn.size]; omega)
    clear h1 h2 ih
    simp only [Cn.size, Cn.deep] at hsz hD hU
    have hsl1 := leaves_len c1
    have hsl2 := leaves_len c2
    cases ob with
    | false =>
      simp only [if_true, if_false, Bool.false_eq_true] at ha hag
      show wpAny _ _ _ _ _ _
      k_fold
      w_strict (k_steps)
      unfold Hold
      refine ⟨_, _, _, _, (fun i => [c1.leaves, c2.leaves].getD i []), rfl, rfl, by assumption, by assumption, .head _, Nat.le_of_ble_eq_true rfl, ?_, ?_, ?_, ?_⟩
      · rintro (_ | _ | i)
        · show c1.leaves.length ≤ 1000
          omega
        · show c2.leaves.length ≤ 1000
          omega
        · exact Nat.zero_le _
      · rintro (_ | _ | _ | i) hi
        · exact Nat.le_of_ble_eq_true rfl
        · show ([] ++ c1.leaves).length + 1000 ≤ 5000
          simp only [List.nil_append]; omega
        · show ([] ++ c1.leaves ++ c2.leaves).length + 1000 ≤ 5000
          simp only [List.nil_append, List.length_append]; omega
        · exact absurd hi (by simp)
      · rintro (_ | _ | i) v2 I oI C oC D oD m₂ h tk E' hv hoC hm F9 N9 off ne
        · cases hv
          show wpAny _ _ _ _ _ _
          w_strict (k_steps)
          · assumption
          · rename_i N' hl
            exact news_sub N' fun q hq => .tail _ hq
          · rename_i N' hl
            exact ⟨_, News.get N' (.head _), rfl, _, rfl⟩
          · rename_i N' hl
            exact Ne.symm (hl _ (.tail _ (.tail _ (.head _))))
        · cases hv
          show wpAny _ _ _ _ _ _
          w_strict (k_steps)
          · assumption
          · rename_i N' hl
            exact news_sub N' fun q hq => .tail _ hq
          · rename_i N' hl
            exact ⟨_, News.get N' (.head _), rfl, _, rfl⟩
          · rename_i N' hl
            exact Ne.symm (hl _ (.tail _ (.tail _ (.head _))))
        · cases hv
      · intro D h tk F N off
        (try dsimp only)
        w_strict (k_steps)
        show BodyEnd _ _ _ _ _
        exact ⟨_, _, rfl, Fr.keep (by assumption), _, _, rfl, News.get N (.head _), fresh_in Kg N (.head _) (fun h => nomatch h)⟩
    | true =>
      simp only [if_true, if_false, Bool.false_eq_true] at ha hag
      show wpAny _ _ _ _ _ _
      k_fold
      w_strict (k_steps)
      unfold Hold
      refine ⟨_, _, _, _, (fun i => [c1.leaves, c2.leaves].getD i []), rfl, rfl, by assumption, by assumption, .head _, Nat.le_of_ble_eq_true rfl, ?_, ?_, ?_, ?_⟩
      · rintro (_ | _ | i)
        · show c1.leaves.length ≤ 1000
          omega
        · show c2.leaves.length ≤ 1000
          omega
        · exact Nat.zero_le _
      · rintro (_ | _ | _ | i) hi
        · exact Nat.le_of_ble_eq_true rfl
        · show ([] ++ c1.leaves).length + 1000 ≤ 5000
          simp only [List.nil_append]; omega
        · show ([] ++ c1.leaves ++ c2.leaves).length + 1000 ≤ 5000
          simp only [List.nil_append, List.length_append]; omega
        · exact absurd hi (by simp)
      · rintro (_ | _ | i) v2 I oI C oC D oD m₂ h tk E' hv hoC hm F9 N9 off ne
        · cases hv
          show wpAny _ _ _ _ _ _
          w_strict (k_steps)
          · assumption
          · rename_i N' hl
            exact news_sub N' fun q hq => .tail _ hq
          · rename_i N' hl
            exact ⟨_, News.get N' (.head _), rfl, _, rfl⟩
          · rename_i N' hl
            exact Ne.symm (hl _ (.tail _ (.tail _ (.head _))))
        · cases hv
          show wpAny _ _ _ _ _ _
          w_strict (k_steps)
          · assumption
          · rename_i N' hl
            exact news_sub N' fun q hq => .tail _ hq
          · rename_i N' hl
            exact ⟨_, News.get N' (.head _), rfl, _, rfl⟩
          · rename_i N' hl
            exact Ne.symm (hl _ (.tail _ (.tail _ (.head _))))
        · cases hv
      · intro D h tk F N off
        (try dsimp only)
        w_strict (k_steps)
        show BodyEnd _ _ _ _ _
        exact ⟨_, _, rfl, Fr.keep (by assumption), _, _, rfl, News.get N (.head _), fresh_in Kg N (.head _) (fun h => nomatch h)⟩
  | leaf hk hx ha hb he1 he2 =>
    have hag := tup ha
    show wpAny _ _ _ _ _ _
    k_fold
    w_strict (k_steps)
    show BodyEnd _ _ _ _ _
    exact ⟨_, _, rfl, Fr.keep (by assumption), _, _, rfl, News.get (by assumption) (.head _), fresh_in Kg (by assumption) (.head _) (fun h => nomatch h)⟩
theorem simp_ok (w : World) : ∀ c, SimpOk w c := by
  intro c
  induction h : c.size using Nat.strongRecOn generalizing c with
  | ind n ih => exact simp_step w c fun c' hc => ih _ (h ▸ hc) c' rfl
end
theorem fresh_E3 : True ∧ True := by
  k_with_none
  (k_with "binaryOp Pow int int 1" => row_timed "fresh" (fail; (((with_reducible refine Mine.my_pow ?kb1 ?kb2 ?kb3 ?kb4 ?_); (case kb1 => decide); (case kb2 => decide); (case kb3 => first | decide | (with_reducible exact (Mine.pow3_bnd (PySem.W.fmod_lo _ (by decide)) (PySem.W.fmod_hi _ (by decide)) (by assumption) (by assumption)).1) | (with_reducible exact (Mine.pow5_bnd (by assumption) (by assumption)).1)); (case kb4 => first | decide | (with_reducible exact (Mine.pow3_bnd (PySem.W.fmod_lo _ (by decide)) (PySem.W.fmod_hi _ (by decide)) (by assumption) (by assumption)).2) | (with_reducible exact (Mine.pow5_bnd (by assumption) (by assumption)).2)); intro r' hr'))))
  (k_with "m:kroom" => row_timed "fresh" (fail; ((simp only [PyProof.Rows.depth_deeper, PySem.recursionLimit] at *; omega))))
  (k_with "m:zmem" => row_timed "fresh" (fail; (first | with_reducible exact List.Mem.head _ | (with_reducible refine' List.Mem.tail _ ?_; k_extra "m:zmem") | (with_reducible refine mapp_r ?_; k_extra "m:zmem") | (refine mapp_l ?_; assumption))))
  w_top off
  first | (walk1; done) | exact ⟨trivial, trivial⟩
section
theorem word_20 : True := by
  (k_with "m:room" => row_timed "fresh" (fail; (((try simp only [depth_deeper, units_deeper, AT_depth, AT_units]); omega))))
  trivial
theorem find_A : Txt.find (Str.ofString "ABCD") (Str.ofString "A") = 0 := by decide +kernel
theorem find_B : Txt.find (Str.ofString "ABCD") (Str.ofString "B") = 1 := by decide +kernel
theorem find_C : Txt.find (Str.ofString "ABCD") (Str.ofString "C") = 2 := by decide +kernel
theorem find_D : Txt.find (Str.ofString "ABCD") (Str.ofString "D") = 3 := by decide +kernel
theorem word_21 : True := by
  (k_with "False" => row_timed "fresh" (fail; ((have fa := find_A; have fb := find_B; have fc := find_C; have fd := find_D; omega))))
  (k_with "subscriptTail 1" => row_timed "fresh" (fail; (((with_reducible show wpAny _ _ (subscriptTail _ _ (Value.ref _) (Value.int _ _)) _ _ _); k_dflt (refine' item_base ?F ?l ?a ?b ?x ?_; (case F => k_asm); (case l => k_asm); (case x => first | exact rfl | ((try simp only [find_A, find_B, find_C, find_D]); exact rfl)); (case a => first | decide | ((try simp only [find_A, find_B, find_C, find_D]); decide)); (case b => first | decide | ((try simp only [find_A, find_B, find_C, find_D]); decide)); k_whole)))))
  (k_with "subscriptTail 2" => row_timed "fresh" (fail; (((with_reducible show wpAny _ _ (subscriptTail _ _ (Value.ref _) (Value.int _ _)) _ _ _); k_dflt (refine' item_tupleT ?t ?a ?b ?c ?d ?_; (case t => exact tup_base (by k_asm) (by k_asm)); (case a => decide); (case b => decide); (case c => rfl); (case d => rfl); k_whole)))))
  trivial
/-- the truth of a condition by its letters -/
def Cn.val (bs : List Bool) : Cn → Bool
  | .leaf _ k => bs.getD k false
  | .neg c => !c.val bs
  | .con o a b => if o then a.val bs || b.val bs else a.val bs && b.val bs
def boolIs (k : Bool) : Value → Bool
  | .bool y => y == k
  | _ => false
theorem in_bool2 {prog : Program} {w : World} {A : Around} {E : Value → Shared → Prop} {s : Shared} {l : Addr} {x y k : Bool} {Q : Value → Shared → Prop} (hl : s.heap.IsList l #[.bool x, .bool y]) (h : Q (.bool (x == k || y == k)) s) :
    wpAny (model prog w) A (compareOp .In (.bool k) (.ref l)) Q E s := by
  refine PySem.SeqAt.in_listAt (boolIs k) hl (fun z hz => ?_) ?_
  · simp only [List.mem_toArray, Array.mem_def, List.mem_cons, List.mem_nil_iff, or_false] at hz
    rcases hz with rfl | rfl
    · exact PySem.SeqAt.EqAt.bool_bool x k
    · exact PySem.SeqAt.EqAt.bool_bool y k
  · rw [show (#[Value.bool x, Value.bool y] : Array Value).any (boolIs k) = (x == k || y == k) by simp [boolIs]]; exact h
theorem notIn_bool2 {prog : Program} {w : World} {A : Around} {E : Value → Shared → Prop} {s : Shared} {l : Addr} {x y k : Bool} {Q : Value → Shared → Prop} (hl : s.heap.IsList l #[.bool x, .bool y]) (h : Q (.bool (!(x == k || y == k))) s) :
    wpAny (model prog w) A (compareOp .NotIn (.bool k) (.ref l)) Q E s := by
  refine PySem.SeqAt.notIn_listAt (boolIs k) hl (fun z hz => ?_) ?_
  · simp only [List.mem_toArray, Array.mem_def, List.mem_cons, List.mem_nil_iff, or_false] at hz
    rcases hz with rfl | rfl
    · exact PySem.SeqAt.EqAt.bool_bool x k
    · exact PySem.SeqAt.EqAt.bool_bool y k
  · rw [show (#[Value.bool x, Value.bool y] : Array Value).any (boolIs k) = (x == k || y == k) by simp [boolIs]]; exact h
theorem word_22 : True := by
  (k_with "compareOp In bool ref" => row_timed "fresh" (fail; ((k_dflt (refine' in_bool2 ?l ?_; (case l => exact ⟨_, News.get (by k_asm) (by k_mem), rfl, _, rfl⟩); k_whole)))))
  (k_with "compareOp NotIn bool ref" => row_timed "fresh" (fail; ((k_dflt (refine' notIn_bool2 ?l ?_; (case l => exact ⟨_, News.get (by k_asm) (by k_mem), rfl, _, rfl⟩); k_whole)))))
  trivial
def TruOk (w : World) (c : Cn) : Prop :=
  ∀ {d u : Nat} {s : Shared} {hb : Heap} {p : Program} {loose : List Str} {mean : ExcName → Option Value} {mg mb : Str → Option Value}
    (_ : (hd.heap_1 w.params).In hb) (_ : Top p loose mean mg mb hb) (_ : hb.StaysIn s.heap) (v : Value) (tl : Addr) (b0 b1 b2 b3 : Bool) (n : Nat)
    (_ : CnAt (fun b ob => s.heap.get? b = some ob) v c) (_ : s.heap.get? tl = some (W.listOf [.bool b0, .bool b1, .bool b2, .bool b3].toArray n)) (_ : d + c.deep + 30 ≤ 800) (_ : u + 10 * c.deep + 50 ≤ 4000), Fn w (AT d u) s 546 [v, .ref tl] [] (fun _ r => r = .bool (c.val [b0, b1, b2, b3]))
theorem tru_use {w : World} {c : Cn} (H : TruOk w c) {p : Program} {loose : List Str} {mean : ExcName → Option Value} {mg mb : Str → Option Value} {A : Around} {s : Shared} {g : Heap} {L : Addr} {m : Str → Option Value} {Q : Value → Shared → Prop} {E : Value → Shared → Prop} {news : List (Addr × Obj)} {v : Value} {tl : Addr} {b0 b1 b2 b3 : Bool} {n : Nat}
    (X : (hd.heap_1 w.params).In g) (T : Top p loose mean mg mb g) (hh : A.handled = none) (hd : A.depth + c.deep + 30 ≤ 800) (hu : A.units + 10 * c.deep + 50 ≤ 4000) (F : Fr g L s.heap m) (N : News g L s.heap news)
    (hc : CnAt (fun b ob => s.heap.get? b = some ob) v c) (ht : s.heap.get? tl = some (W.listOf [.bool b0, .bool b1, .bool b2, .bool b3].toArray n))
    (h : ∀ h' tk, Fr g L h' m → News g L h' news → Q (.bool (c.val [b0, b1, b2, b3])) { s with heap := h', toks := tk }) :
    wpAny (model PySem.Challenge.rw_pq0617_01.row.prog w) A (call (.ref 546) [v, .ref tl]) Q E s := by
  refine use2 (d := A.depth) (u := A.units) (H X T F.keep v tl b0 b1 b2 b3 n hc ht hd hu) hh (Nat.le_refl _) (Nat.le_refl _) F N (fun _ h => nomatch h) ?_
  rintro _ h' tk F' k1 k2 rfl
  exact h h' tk F' (news_all fun q hq => k1 q hq fun h => nomatch h)
theorem word_23 : True := by
  (k_with "call ref 1" => row_timed "fresh" (fail; (((show wpAny _ _ (call (Value.ref 546) [_, Value.ref _]) _ _ _); refine' tru_use ?H ?X ?T ?hh ?hd ?hu ?F ?N ?hc ?ht ?_; (case F => k_asm); (case hc => exact CnAt.mono (by assumption) (Fr.keep (by k_asm))); (case H => assumption); (case X => k_asm); (case T => k_asm); (case hh => rfl); (case hd => k_extra "m:room"); (case hu => k_extra "m:room"); (case ht => exact Fr.keep (by k_asm) _ _ (by k_asm)); (case N => k_asm); intro h' tk' F' N'; (try k_sweep); (try dsimp only)))))
  trivial
set_option maxHeartbeats 4000000 in
theorem tru_step (w : World) (c : Cn) (ih : ∀ c', c'.size < c.size → TruOk w c') : TruOk w c := by
  intro d u s hb p loose mean mg mb X T hK v tl b0 b1 b2 b3 nl hc htl hD hU
  refine enter (K := hd.heap_1 w.params) (binds := [(Str.ofString "cond", v), (Str.ofString "truths", .ref tl)]) [] X T hK (fun _ h => nomatch h) (by k_is) (by k_is) (by simp only [recursionLimit]; omega) (BindsTo.of_eq rfl) (locs rfl) ?_ rfl rfl rfl (by decide)
  intro g' L' h' Kg F' N' l1 X' T' S'
  have tup : ∀ {b : Addr} {vs : Array Value} {n : Nat}, s.heap.get? b = some (tupOf vs n) → g'.get? b = some (tupOf vs n) := fun e => Kg _ _ e (fun h => nomatch h)
  have htg := Kg _ _ htl (fun h => nomatch h)
  cases hc with
  | @neg a v c n t ha hc =>
    have hag := tup ha
    have hc' : CnAt (fun b ob => g'.get? b = some ob) v c := hc.monoT fun a vs n e => tup e
    have H1 : TruOk w c := ih c (by simp only [Cn.size]; omega)
    clear hc ih
    simp only [Cn.deep] at hD hU
    show wpAny _ _ _ _ _ _
    k_fold
    w_strict (k_steps)
    show BodyEnd _ _ _ _ _
    exact ⟨_, _, rfl, Fr.keep (by assumption), rfl⟩
  | @con a v1 v2 c1 c2 ob n t ha h1 h2 =>
    have hag := tup ha
    have h1' : CnAt (fun b ob => g'.get? b = some ob) v1 c1 := h1.monoT fun a vs n e => tup e
    have h2' : CnAt (fun b ob => g'.get? b = some ob) v2 c2 := h2.monoT fun a vs n e => tup e
    have H1 : TruOk w c1 := ih c1 (by simp only [Cn.size]; omega)
    have H2 : TruOk w c2 := ih c2 (by simp only [Cn.size]; omega)
    clear h1 h2 ih
    simp only [Cn.deep] at hD hU
    cases ob with
    | false =>
      simp only [if_true, if_false, Bool.false_eq_true] at ha hag
      show wpAny _ _ _ _ _ _
      k_fold
      w_strict (k_steps)
      show BodyEnd _ _ _ _ _
      exact ⟨_, _, rfl, Fr.keep (by assumption), by simp only [Cn.val]; cases c1.val [b0, b1, b2, b3] <;> cases c2.val [b0, b1, b2, b3] <;> rfl⟩
    | true =>
      simp only [if_true, if_false, Bool.false_eq_true] at ha hag
      show wpAny _ _ _ _ _ _
      k_fold
      w_strict (k_steps)
      show BodyEnd _ _ _ _ _
      exact ⟨_, _, rfl, Fr.keep (by assumption), by simp only [Cn.val]; cases c1.val [b0, b1, b2, b3] <;> cases c2.val [b0, b1, b2, b3] <;> rfl⟩
  | @leaf a b e1 e2 k n1 n2 n3 n4 t1 t2 t3 t4 x hk hx ha hb he1 he2 =>
    have hag := tup ha
    have hbg := tup hb
    subst hx
    match k, hk with
    | 0, _ =>
      simp only [letter] at hb hbg
      show wpAny _ _ _ _ _ _
      k_fold
      w_strict (k_steps)
      show BodyEnd _ _ _ _ _
      exact ⟨_, _, rfl, Fr.keep (by assumption), rfl⟩
    | 1, _ =>
      simp only [letter] at hb hbg
      show wpAny _ _ _ _ _ _
      k_fold
      w_strict (k_steps)
      show BodyEnd _ _ _ _ _
      exact ⟨_, _, rfl, Fr.keep (by assumption), rfl⟩
    | 2, _ =>
      simp only [letter] at hb hbg
      show wpAny _ _ _ _ _ _
      k_fold
      w_strict (k_steps)
      show BodyEnd _ _ _ _ _
      exact ⟨_, _, rfl, Fr.keep (by assumption), rfl⟩
    | 3, _ =>
      simp only [letter] at hb hbg
      show wpAny _ _ _ _ _ _
      k_fold
      w_strict (k_steps)
      show BodyEnd _ _ _ _ _
      exact ⟨_, _, rfl, Fr.keep (by assumption), rfl⟩
theorem tru_ok (w : World) : ∀ c, TruOk w c := by
  intro c
  induction h : c.size using Nat.strongRecOn generalizing c with
  | ind n ih => exact tru_step w c fun c' hc => ih _ (h ▸ hc) c' rfl
end
theorem fresh_M1 : True ∧ True := by
  k_with_none
  (k_with "binaryOp Pow int int 1" => row_timed "fresh" (fail; (((with_reducible refine Mine.my_pow ?kb1 ?kb2 ?kb3 ?kb4 ?_); (case kb1 => decide); (case kb2 => decide); (case kb3 => first | decide | (with_reducible exact (Mine.pow3_bnd (PySem.W.fmod_lo _ (by decide)) (PySem.W.fmod_hi _ (by decide)) (by assumption) (by assumption)).1) | (with_reducible exact (Mine.pow5_bnd (by assumption) (by assumption)).1)); (case kb4 => first | decide | (with_reducible exact (Mine.pow3_bnd (PySem.W.fmod_lo _ (by decide)) (PySem.W.fmod_hi _ (by decide)) (by assumption) (by assumption)).2) | (with_reducible exact (Mine.pow5_bnd (by assumption) (by assumption)).2)); intro r' hr'))))
  (k_with "m:kroom" => row_timed "fresh" (fail; ((simp only [PyProof.Rows.depth_deeper, PySem.recursionLimit] at *; omega))))
  (k_with "m:zmem" => row_timed "fresh" (fail; (first | with_reducible exact List.Mem.head _ | (with_reducible refine' List.Mem.tail _ ?_; k_extra "m:zmem") | (with_reducible refine mapp_r ?_; k_extra "m:zmem") | (refine mapp_l ?_; assumption))))
  w_top off
  first | (walk1; done) | exact ⟨trivial, trivial⟩
section
def DoOk (w : World) (s : Shared) (f ll : Addr) : Prop :=
  ((∃ cv od fd sl, s.heap.get? f = some ⟨cv, od, .func fd, sl⟩) ∧ f ≠ ll) ∧
  ∀ (d u : Nat) (s' : Shared), d ≤ 700 → u ≤ 3500 → (∀ b o, s.heap.get? b = some o → b ≠ ll → s'.heap.get? b = some o) → ∀ (vs : List Value) (n : Nat), s'.heap.get? ll = some (W.listOf vs.toArray n) → vs.length ≤ 1000 → ∀ (i : Int) (t : Tok),
    Fn w (AT d u) s' f [.int i t] [ll] (fun h r => (∃ t', r = .str (Str.ofString "") t') ∧ ∃ n', h.get? ll = some (W.listOf (vs ++ [Value.int i t]).toArray n'))
def TestOk (w : World) (s : Shared) (f ll : Addr) (ok : Value → Prop) (tr : Value → Bool) : Prop :=
  ((∃ cv od fd sl, s.heap.get? f = some ⟨cv, od, .func fd, sl⟩) ∧ f ≠ ll) ∧
  ∀ (d u : Nat) (s' : Shared), d ≤ 700 → u ≤ 3500 → (∀ b o, s.heap.get? b = some o → b ≠ ll → s'.heap.get? b = some o) → ∀ (vs : List Value) (n : Nat), s'.heap.get? ll = some (W.listOf vs.toArray n) → vs.length ≤ 1000 → ∀ (v : Value), ok v →
    Fn w (AT d u) s' f [v] [ll] (fun h r => r = .bool (tr v) ∧ ∃ n', h.get? ll = some (W.listOf (vs ++ [v]).toArray n'))
section
variable {w : World} {A : Around} {s s₀ : Shared} {g : Heap} {L : Addr} {m : Str → Option Value} {Q : Value → Shared → Prop} {E : Value → Shared → Prop} {f ll : Addr} {vs : List Value} {n : Nat} {q : Addr × Obj}
theorem do_use {i : Int} {t : Tok} (C : DoOk w s₀ f ll) (hk : ∀ b o, s₀.heap.get? b = some o → b ≠ ll → g.get? b = some o) (hh : A.handled = none) (hd : A.depth ≤ 700) (hu : A.units ≤ 3500) (F : Fr g L s.heap m)
    (N : News g L s.heap [q, (ll, W.listOf vs.toArray n)]) (hq : q.1 ≠ ll) (hlen : vs.length ≤ 1000)
    (h : ∀ t' n' h' tk, Fr g L h' m → News g L h' [q, (ll, W.listOf (vs ++ [Value.int i t]).toArray n')] → Q (.str (Str.ofString "") t') { s with heap := h', toks := tk }) :
    wpAny (model PySem.Challenge.rw_pq0617_01.row.prog w) A (call (.ref f) [.int i t]) Q E s := by
  refine use2 (C.2 A.depth A.units s hd hu (fun b o e n => F.keep _ _ (hk b o e n)) vs n (N.get (.tail _ (.head _))) hlen i t) hh (Nat.le_refl _) (Nat.le_refl _) F N (fun b hb => by rw [List.mem_singleton.mp hb]; exact ⟨_, .tail _ (.head _)⟩) ?_
  rintro v h' tk F' k1 k2 ⟨⟨t', rfl⟩, n', hg⟩
  exact h t' n' h' tk F' (news_cons (k1 _ (.head _) fun hm => hq (List.mem_singleton.mp hm)) (k2 _ hg (.inl (.head _))))
theorem test_use {ok : Value → Prop} {tr : Value → Bool} {v : Value} (C : TestOk w s₀ f ll ok tr) (hv : ok v) (hk : ∀ b o, s₀.heap.get? b = some o → b ≠ ll → g.get? b = some o) (hh : A.handled = none) (hd : A.depth ≤ 700) (hu : A.units ≤ 3500) (F : Fr g L s.heap m)
    (N : News g L s.heap [q, (ll, W.listOf vs.toArray n)]) (hq : q.1 ≠ ll) (hlen : vs.length ≤ 1000) {b : Bool} (hb : tr v = b)
    (h : ∀ n' h' tk, Fr g L h' m → News g L h' [q, (ll, W.listOf (vs ++ [v]).toArray n')] → Q (.bool b) { s with heap := h', toks := tk }) :
    wpAny (model PySem.Challenge.rw_pq0617_01.row.prog w) A (call (.ref f) [v]) Q E s := by
  refine use2 (C.2 A.depth A.units s hd hu (fun b o e n => F.keep _ _ (hk b o e n)) vs n (N.get (.tail _ (.head _))) hlen v hv) hh (Nat.le_refl _) (Nat.le_refl _) F N (fun b hb => by rw [List.mem_singleton.mp hb]; exact ⟨_, .tail _ (.head _)⟩) ?_
  rintro _ h' tk F' k1 k2 ⟨rfl, n', hg⟩
  rw [hb]
  exact h n' h' tk F' (news_cons (k1 _ (.head _) fun hm => hq (List.mem_singleton.mp hm)) (k2 _ hg (.inl (.head _))))
end
abbrev deE (w : World) (t1 t2 t3 t4 : Tok) (v1 v2 v3 v4 : Value) : List DictEntry :=
  [⟨PyData.keyHash w.params (Str.ofString "do"), .str (Str.ofString "do") t1, v1⟩, ⟨PyData.keyHash w.params (Str.ofString "test"), .str (Str.ofString "test") t2, v2⟩, ⟨PyData.keyHash w.params (Str.ofString "number"), .str (Str.ofString "number") t3, v3⟩, ⟨PyData.keyHash w.params (Str.ofString "put"), .str (Str.ofString "put") t4, v4⟩]
theorem word_24 : True := by
  (k_with "m:ne" => row_timed "fresh" (fail; (first | assumption | exact Ne.symm (by assumption))))
  (k_with "m:inst" => row_timed "fresh" (fail; (first | exact inst_mix (by k_asm) (by k_asm) (by k_asm) (by k_mem) | exact inst_base (by k_asm) (by k_asm) (by k_asm))))
  (k_with "m:room" => row_timed "fresh" (fail; (((try simp only [depth_deeper, units_deeper, AT_depth, AT_units]); omega))))
  (k_with "subscriptTail 1" => row_timed "fresh" (fail; (((with_reducible show wpAny _ _ (subscriptTail _ _ (Value.ref _) (Value.int _ _)) _ _ _); k_dflt (refine' item_tupleT ?t ?a ?b ?c ?d ?_; (case t => exact tup_base (by k_asm) (by k_asm)); (case a => decide); (case b => decide); (case c => rfl); (case d => rfl); k_whole)))))
  trivial
/-- do_jump -/
theorem jump_ok {w : World} {d u : Nat} {s : Shared} {hb : Heap} {p : Program} {loose : List Str} {mean : ExcName → Option Value} {mg mb : Str → Option Value}
    (X : (hd.heap_1 w.params).In hb) (T : Top p loose mean mg mb hb) (hK : hb.StaysIn s.heap)
    (mx mdx op : Addr) (t1 t2 t3 t4 t5 t6 t7 tp to tl : Tok) (code deeds stack frames key word : Value) (pl l : Int) (no : Nat)
    (hmx : s.heap.get? mx = some (instObj 338 mdx)) (hmd : s.heap.get? mdx = some (dictOf (mcE w t1 t2 t3 t4 t5 t6 t7 code deeds (.int pl tp) stack frames key word) 7)) (hf : hb.get? mdx = none)
    (hop : s.heap.get? op = some (tupOf #[.str (Str.ofString "jump") to, .int l tl] no)) (hD : d ≤ 800) :
    Fn w (AT d u) s 398 [.ref mx, .ref op] [mdx] (fun h r => r = .none ∧ h.get? mdx = some (dictOf (mcE w t1 t2 t3 t4 t5 t6 t7 code deeds (.int l tl) stack frames key word) 7)) := by
  refine enter (K := hd.heap_1 w.params) (binds := [(Str.ofString "machine", .ref mx), (Str.ofString "op", .ref op)]) [(mdx, dictOf (mcE w t1 t2 t3 t4 t5 t6 t7 code deeds (.int pl tp) stack frames key word) 7)] X T hK ?_ (by k_is) (by k_is) (by simp only [recursionLimit]; omega) (BindsTo.of_eq rfl) (locs rfl) ?_ rfl rfl rfl (by decide)
  · intro q hq; cases hq with
    | head => exact ⟨hmd, hf⟩
    | tail _ h => cases h
  intro g' L' h' Kg F' N' l1 X' T' S'
  k_lt l1
  dsimp only [mcE] at N'
  have hxg : g'.get? mx = some (instObj 338 mdx) := Kg _ _ hmx (nin1 (PySem.W.X.ne_objs _ _ _ _ hmx hmd rfl))
  have hog := Kg _ _ hop (nin1 (PySem.W.X.ne_objs _ _ _ _ hop hmd rfl))
  show wpAny _ _ _ _ _ _
  k_fold
  w_strict (k_steps)
  show BodyEnd _ _ _ _ _
  exact ⟨_, _, rfl, Fr.keep (by assumption), rfl, News.get (by assumption) (.head _)⟩
/-- do_stop -/
theorem stop_ok {w : World} {d u : Nat} {s : Shared} {hb : Heap} {p : Program} {loose : List Str} {mean : ExcName → Option Value} {mg mb : Str → Option Value}
    (X : (hd.heap_1 w.params).In hb) (T : Top p loose mean mg mb hb) (hK : hb.StaysIn s.heap)
    (mx mdx op : Addr) (t1 t2 t3 t4 t5 t6 t7 to tl : Tok) (code deeds place stack frames key word : Value) (x : Str) (no : Nat)
    (hmx : s.heap.get? mx = some (instObj 338 mdx)) (hmd : s.heap.get? mdx = some (dictOf (mcE w t1 t2 t3 t4 t5 t6 t7 code deeds place stack frames key word) 7)) (hf : hb.get? mdx = none)
    (hop : s.heap.get? op = some (tupOf #[.str (Str.ofString "stop") to, .str x tl] no)) (hD : d ≤ 800) :
    Fn w (AT d u) s 440 [.ref mx, .ref op] [mdx] (fun h r => r = .none ∧ h.get? mdx = some (dictOf (mcE w t1 t2 t3 t4 t5 t6 t7 code deeds place stack frames key (.str x tl)) 7)) := by
  refine enter (K := hd.heap_1 w.params) (binds := [(Str.ofString "machine", .ref mx), (Str.ofString "op", .ref op)]) [(mdx, dictOf (mcE w t1 t2 t3 t4 t5 t6 t7 code deeds place stack frames key word) 7)] X T hK ?_ (by k_is) (by k_is) (by simp only [recursionLimit]; omega) (BindsTo.of_eq rfl) (locs rfl) ?_ rfl rfl rfl (by decide)
  · intro q hq; cases hq with
    | head => exact ⟨hmd, hf⟩
    | tail _ h => cases h
  intro g' L' h' Kg F' N' l1 X' T' S'
  k_lt l1
  dsimp only [mcE] at N'
  have hxg : g'.get? mx = some (instObj 338 mdx) := Kg _ _ hmx (nin1 (PySem.W.X.ne_objs _ _ _ _ hmx hmd rfl))
  have hog := Kg _ _ hop (nin1 (PySem.W.X.ne_objs _ _ _ _ hop hmd rfl))
  show wpAny _ _ _ _ _ _
  k_fold
  w_strict (k_steps)
  show BodyEnd _ _ _ _ _
  exact ⟨_, _, rfl, Fr.keep (by assumption), rfl, News.get (by assumption) (.head _)⟩
theorem word_25 : True := by
  (k_with "callWith ref" => row_timed "fresh" (fail; ((k_dflt (refine' callWith_F ?hf ?_; (case hf => k_asm); k_whole)))))
  (k_with "And" => row_timed "fresh" (fail; (((with_reducible show Heap.get? _ _ = _ ∧ _); refine And.intro (Fr.keep (by k_asm) _ _ (by k_asm)) ?_; try dsimp only [List.nil_append, List.cons_append]))))
  (k_with "call ref 1" => row_timed "fresh" (fail; (((show wpAny _ _ (call (Value.ref _) [Value.int _ _]) _ _ _); refine' do_use ?C ?Kg ?hh ?hd ?hu ?F ?N ?hq ?hl ?_; (case C => k_asm); (case Kg => k_asm); (case hh => rfl); (case hd => k_extra "m:room"); (case hu => k_extra "m:room"); (case F => k_asm); (case N => k_asm); (case hq => assumption); (case hl => assumption); intro t' n' h' tk' F' N'; (try k_sweep); (try dsimp only)))))
  trivial
set_option maxHeartbeats 4000000 in
/-- do_deed -/
theorem deed_ok {w : World} {d u : Nat} {s s₀ : Shared} {hb : Heap} {p : Program} {loose : List Str} {mean : ExcName → Option Value} {mg mb : Str → Option Value}
    (X : (hd.heap_1 w.params).In hb) (T : Top p loose mean mg mb hb) (hK : hb.StaysIn s.heap)
    (mx mdx op ll dx ddx f1 f2 : Addr) (t1 t2 t3 t4 t5 t6 t7 d1 d2 d3 d4 to ti : Tok) (code place stack frames key word v3 v4 : Value) (i : Int) (no nl nd : Nat) (vs : List Value)
    (hmx : s.heap.get? mx = some (instObj 338 mdx)) (hmd : s.heap.get? mdx = some (dictOf (mcE w t1 t2 t3 t4 t5 t6 t7 code (.ref dx) place stack frames key word) 7)) (hf : hb.get? mdx = none)
    (hdx : s.heap.get? dx = some (instObj 511 ddx)) (hdd : s.heap.get? ddx = some (dictOf (deE w d1 d2 d3 d4 (.ref f1) (.ref f2) v3 v4) nd)) (hne : ddx ≠ mdx)
    (hop : s.heap.get? op = some (tupOf #[.str (Str.ofString "do") to, .int i ti] no)) (hll : s.heap.get? ll = some (W.listOf vs.toArray nl)) (hlf : hb.get? ll = none) (hlen : vs.length ≤ 1000)
    (C : DoOk w s₀ f1 ll) (hk : ∀ b o, s₀.heap.get? b = some o → b ≠ ll → s.heap.get? b = some o) (hm0 : s₀.heap.get? mdx = none) (hD : d + 10 ≤ 700) (hU : u + 100 ≤ 3500) :
    Fn w (AT d u) s 377 [.ref mx, .ref op] [mdx, ll] (fun h r => r = .none ∧ (∃ tk, h.get? mdx = some (dictOf (mcE w t1 t2 t3 t4 t5 t6 t7 code (.ref dx) place stack frames (.str (Str.ofString "") tk) word) 7)) ∧ ∃ n', h.get? ll = some (W.listOf (vs ++ [Value.int i ti]).toArray n')) := by
  have hml : mdx ≠ ll := PySem.W.X.ne_objs _ _ _ _ hmd hll rfl
  refine enter (K := hd.heap_1 w.params) (binds := [(Str.ofString "machine", .ref mx), (Str.ofString "op", .ref op)]) [(mdx, dictOf (mcE w t1 t2 t3 t4 t5 t6 t7 code (.ref dx) place stack frames key word) 7), (ll, W.listOf vs.toArray nl)] X T hK ?_ (by k_is) (by k_is) (by simp only [recursionLimit]; omega) (BindsTo.of_eq rfl) (locs rfl) ?_ rfl rfl rfl (by decide)
  · intro q hq
    rcases List.mem_cons.mp hq with rfl | hq
    · exact ⟨hmd, hf⟩
    · rw [List.mem_singleton.mp hq]; exact ⟨hll, hlf⟩
  intro g' L' h' Kg F' N' l1 X' T' S'
  k_lt l1
  dsimp only [mcE] at N'
  have hxg : g'.get? mx = some (instObj 338 mdx) := Kg _ _ hmx (nin_two (PySem.W.X.ne_objs _ _ _ _ hmx hmd rfl) (PySem.W.X.ne_objs _ _ _ _ hmx hll rfl))
  have hdg : g'.get? dx = some (instObj 511 ddx) := Kg _ _ hdx (nin_two (PySem.W.X.ne_objs _ _ _ _ hdx hmd rfl) (PySem.W.X.ne_objs _ _ _ _ hdx hll rfl))
  have hddg : g'.get? ddx = some (dictOf (deE w d1 d2 d3 d4 (.ref f1) (.ref f2) v3 v4) nd) := Kg _ _ hdd (nin_two hne (PySem.W.X.ne_objs _ _ _ _ hdd hll rfl))
  have hog := Kg _ _ hop (nin_two (PySem.W.X.ne_objs _ _ _ _ hop hmd rfl) (PySem.W.X.ne_objs _ _ _ _ hop hll rfl))
  have hk' : ∀ b o, s₀.heap.get? b = some o → b ≠ ll → g'.get? b = some o := fun b o e n => Kg _ _ (hk b o e n) (nin_two (fun q => by rw [q, hm0] at e; cases e) n)
  obtain ⟨⟨cv, od, fd, sl, hfo⟩, hfl⟩ := C.1
  have hfg : g'.get? f1 = some ⟨cv, od, .func fd, sl⟩ := hk' _ _ hfo hfl
  show wpAny _ _ _ _ _ _
  k_fold
  w_strict (k_steps)
  show BodyEnd _ _ _ _ _
  exact ⟨_, _, rfl, Fr.keep (by assumption), rfl, ⟨_, News.get (by assumption) (.head _)⟩, _, News.get (by assumption) (.tail _ (.head _))⟩
theorem word_26 : True := by
  (k_with "call ref 2" => row_timed "fresh" (fail; (((show wpAny _ _ (call (Value.ref _) [_]) _ _ _); refine' test_use ?C ?v ?Kg ?hh ?hd ?hu ?F ?N ?hq ?hl ?hb ?_; (case C => k_asm); (case v => assumption); (case Kg => k_asm); (case hh => rfl); (case hd => k_extra "m:room"); (case hu => k_extra "m:room"); (case F => k_asm); (case N => k_asm); (case hq => assumption); (case hl => assumption); (case hb => assumption); intro n' h' tk' F' N'; (try k_sweep); (try dsimp only)))))
  trivial
set_option maxHeartbeats 4000000 in
/-- do_test -/
theorem test_ok {w : World} {d u : Nat} {s s₀ : Shared} {hb : Heap} {p : Program} {loose : List Str} {mean : ExcName → Option Value} {mg mb : Str → Option Value}
    (X : (hd.heap_1 w.params).In hb) (T : Top p loose mean mg mb hb) (hK : hb.StaysIn s.heap)
    (mx mdx op ll dx ddx f1 f2 : Addr) (t1 t2 t3 t4 t5 t6 t7 d1 d2 d3 d4 to tp tl : Tok) (code stack frames key word v3 v4 v : Value) (pl l : Int) (no nl nd : Nat) (vs : List Value) (ok : Value → Prop) (tr : Value → Bool) (b : Bool)
    (hmx : s.heap.get? mx = some (instObj 338 mdx)) (hmd : s.heap.get? mdx = some (dictOf (mcE w t1 t2 t3 t4 t5 t6 t7 code (.ref dx) (.int pl tp) stack frames key word) 7)) (hf : hb.get? mdx = none)
    (hdx : s.heap.get? dx = some (instObj 511 ddx)) (hdd : s.heap.get? ddx = some (dictOf (deE w d1 d2 d3 d4 (.ref f1) (.ref f2) v3 v4) nd)) (hne : ddx ≠ mdx)
    (hop : s.heap.get? op = some (tupOf #[.str (Str.ofString "test") to, v, .int l tl] no)) (hll : s.heap.get? ll = some (W.listOf vs.toArray nl)) (hlf : hb.get? ll = none) (hlen : vs.length ≤ 1000)
    (C : TestOk w s₀ f2 ll ok tr) (hv : ok v) (htr : tr v = b) (hk : ∀ b o, s₀.heap.get? b = some o → b ≠ ll → s.heap.get? b = some o) (hm0 : s₀.heap.get? mdx = none) (hD : d + 10 ≤ 700) (hU : u + 100 ≤ 3500) :
    Fn w (AT d u) s 391 [.ref mx, .ref op] [mdx, ll] (fun h r => r = .none ∧ h.get? mdx = some (dictOf (mcE w t1 t2 t3 t4 t5 t6 t7 code (.ref dx) (if b then .int pl tp else .int l tl) stack frames key word) 7) ∧ ∃ n', h.get? ll = some (W.listOf (vs ++ [v]).toArray n')) := by
  have hml : mdx ≠ ll := PySem.W.X.ne_objs _ _ _ _ hmd hll rfl
  refine enter (K := hd.heap_1 w.params) (binds := [(Str.ofString "machine", .ref mx), (Str.ofString "op", .ref op)]) [(mdx, dictOf (mcE w t1 t2 t3 t4 t5 t6 t7 code (.ref dx) (.int pl tp) stack frames key word) 7), (ll, W.listOf vs.toArray nl)] X T hK ?_ (by k_is) (by k_is) (by simp only [recursionLimit]; omega) (BindsTo.of_eq rfl) (locs rfl) ?_ rfl rfl rfl (by decide)
  · intro q hq
    rcases List.mem_cons.mp hq with rfl | hq
    · exact ⟨hmd, hf⟩
    · rw [List.mem_singleton.mp hq]; exact ⟨hll, hlf⟩
  intro g' L' h' Kg F' N' l1 X' T' S'
  k_lt l1
  dsimp only [mcE] at N'
  have hxg : g'.get? mx = some (instObj 338 mdx) := Kg _ _ hmx (nin_two (PySem.W.X.ne_objs _ _ _ _ hmx hmd rfl) (PySem.W.X.ne_objs _ _ _ _ hmx hll rfl))
  have hdg : g'.get? dx = some (instObj 511 ddx) := Kg _ _ hdx (nin_two (PySem.W.X.ne_objs _ _ _ _ hdx hmd rfl) (PySem.W.X.ne_objs _ _ _ _ hdx hll rfl))
  have hddg : g'.get? ddx = some (dictOf (deE w d1 d2 d3 d4 (.ref f1) (.ref f2) v3 v4) nd) := Kg _ _ hdd (nin_two hne (PySem.W.X.ne_objs _ _ _ _ hdd hll rfl))
  have hog := Kg _ _ hop (nin_two (PySem.W.X.ne_objs _ _ _ _ hop hmd rfl) (PySem.W.X.ne_objs _ _ _ _ hop hll rfl))
  have hk' : ∀ b o, s₀.heap.get? b = some o → b ≠ ll → g'.get? b = some o := fun b o e n => Kg _ _ (hk b o e n) (nin_two (fun q => by rw [q, hm0] at e; cases e) n)
  obtain ⟨⟨cv, od, fd, sl, hfo⟩, hfl⟩ := C.1
  have hfg : g'.get? f2 = some ⟨cv, od, .func fd, sl⟩ := hk' _ _ hfo hfl
  cases b
  all_goals (show wpAny _ _ _ _ _ _)
  all_goals k_fold
  all_goals w_strict (k_steps)
  all_goals (show BodyEnd _ _ _ _ _)
  all_goals exact ⟨_, _, rfl, Fr.keep (by assumption), rfl, News.get (by assumption) (.head _), _, News.get (by assumption) (.tail _ (.head _))⟩
end
theorem fresh_M2 : True ∧ True := by
  k_with_none
  (k_with "binaryOp Pow int int 1" => row_timed "fresh" (fail; (((with_reducible refine Mine.my_pow ?kb1 ?kb2 ?kb3 ?kb4 ?_); (case kb1 => decide); (case kb2 => decide); (case kb3 => first | decide | (with_reducible exact (Mine.pow3_bnd (PySem.W.fmod_lo _ (by decide)) (PySem.W.fmod_hi _ (by decide)) (by assumption) (by assumption)).1) | (with_reducible exact (Mine.pow5_bnd (by assumption) (by assumption)).1)); (case kb4 => first | decide | (with_reducible exact (Mine.pow3_bnd (PySem.W.fmod_lo _ (by decide)) (PySem.W.fmod_hi _ (by decide)) (by assumption) (by assumption)).2) | (with_reducible exact (Mine.pow5_bnd (by assumption) (by assumption)).2)); intro r' hr'))))
  (k_with "m:kroom" => row_timed "fresh" (fail; ((simp only [PyProof.Rows.depth_deeper, PySem.recursionLimit] at *; omega))))
  (k_with "m:zmem" => row_timed "fresh" (fail; (first | with_reducible exact List.Mem.head _ | (with_reducible refine' List.Mem.tail _ ?_; k_extra "m:zmem") | (with_reducible refine mapp_r ?_; k_extra "m:zmem") | (refine mapp_l ?_; assumption))))
  w_top off
  first | (walk1; done) | exact ⟨trivial, trivial⟩
section
theorem word_27 : True := by
  (k_with "m:room" => row_timed "fresh" (fail; (((try simp only [depth_deeper, units_deeper, AT_depth, AT_units]); omega))))
  trivial
abbrev tblP : List (Str × Value) := [(Str.ofString "push", .ref 363), (Str.ofString "calc", .ref 363), (Str.ofString "put", .ref 370), (Str.ofString "do", .ref 377), (Str.ofString "key", .ref 384), (Str.ofString "test", .ref 391), (Str.ofString "jump", .ref 398), (Str.ofString "choose", .ref 405), (Str.ofString "perform", .ref 412), (Str.ofString "leave", .ref 419), (Str.ofString "count", .ref 426), (Str.ofString "less", .ref 433), (Str.ofString "stop", .ref 440)]
set_option maxHeartbeats 4000000 in
theorem table_ok {w : World} {d u : Nat} {s : Shared} {hb : Heap} {p : Program} {loose : List Str} {mean : ExcName → Option Value} {mg mb : Str → Option Value}
    (X : (hd.heap_1 w.params).In hb) (T : Top p loose mean mg mb hb) (hK : hb.StaysIn s.heap) (hD : d ≤ 800) :
    Fn w (AT d u) s 447 [] [] (fun h r => ∃ a o, r = .ref a ∧ h.get? a = some o ∧ o.IsDictOf (PySem.strKind PySem.Challenge.rw_pq0617_01.row.prog w) tblP ∧ s.heap.get? a = none) := by
  refine enter (K := hd.heap_1 w.params) (binds := []) [] X T hK (fun _ h => nomatch h) (by k_is) (by k_is) (by simp only [recursionLimit]; omega) (BindsTo.of_eq rfl) (locs rfl) ?_ rfl rfl rfl (by decide)
  intro g' L' h' Kg F' N' l1 X' T' S'
  show wpAny _ _ _ _ _ _
  k_fold
  w_strict (k_steps)
  show BodyEnd _ _ _ _ _
  exact ⟨_, _, rfl, Fr.keep (by assumption), _, _, rfl, News.get (by assumption) (.head _), by assumption, fresh_in Kg (by assumption) (.head _) (fun h => nomatch h)⟩
section
variable {w : World} {p : Program} {loose : List Str} {mean : ExcName → Option Value} {mg mb : Str → Option Value} {A : Around} {s : Shared} {g : Heap} {L : Addr} {m : Str → Option Value} {Q : Value → Shared → Prop} {E : Value → Shared → Prop} {news : List (Addr × Obj)}
theorem table_use (X : (hd.heap_1 w.params).In g) (T : Top p loose mean mg mb g) (hh : A.handled = none) (hd : A.depth ≤ 800) (hu : A.units ≤ 4000) (F : Fr g L s.heap m) (N : News g L s.heap news)
    (h : ∀ a o h' tk, o.IsDictOf (PySem.strKind PySem.Challenge.rw_pq0617_01.row.prog w) tblP → Fr g L h' m → News g L h' ((a, o) :: news) → (∀ q ∈ news, q.1 ≠ a) → Q (.ref a) { s with heap := h', toks := tk }) :
    wpAny (model PySem.Challenge.rw_pq0617_01.row.prog w) A (call (.ref 447) []) Q E s := by
  refine use2 (d := 800) (u := 4000) (table_ok X T F.keep (Nat.le_refl _)) hh hd hu F N (fun _ h => nomatch h) ?_
  rintro _ h' tk F' k1 k2 ⟨a, o, rfl, ho, hd, hf⟩
  refine h a o h' tk hd F' (news_cons (k2 _ ho (.inr hf)) (news_all fun q hq => k1 q hq fun h => nomatch h)) fun q hq e => ?_
  rw [← e, (N q hq).1] at hf; cases hf
theorem machine_use {v1 v2 : Value} (X : (hd.heap_1 w.params).In g) (T : Top p loose mean mg mb g) (hh : A.handled = none) (hdp : A.depth ≤ 700) (hu : A.units ≤ 3800) (F : Fr g L s.heap m) (N : News g L s.heap news)
    (h : ∀ x dx t1 t2 t3 t4 t5 t6 t7 t8 t9 t10 stack frames h' tk, Fr g L h' m → News g L h' ((x, instObj 338 dx) :: (dx, dictOf (mcE w t1 t2 t3 t4 t5 t6 t7 v1 v2 (.int 0 t8) stack frames (.str (Str.ofString "") t9) (.str (Str.ofString "") t10)) 7) :: news) → (∀ q ∈ news, q.1 < dx) → dx < x → Q (.ref x) { s with heap := h', toks := tk }) :
    wpAny (model PySem.Challenge.rw_pq0617_01.row.prog w) A (call (.ref 338) [v1, v2]) Q E s :=
  cls_use (d := 701) (u := 3801) X hh (Nat.add_le_add_right hdp 1) (Nat.add_le_add_right hu 1) F N (by k_is) (by k_is) (by k_is) (fun _ dx _ h v => v = .none ∧ ∃ t1 t2 t3 t4 t5 t6 t7 t8 t9 t10 stack frames, h.get? dx = some (dictOf (mcE w t1 t2 t3 t4 t5 t6 t7 v1 v2 (.int 0 t8) stack frames (.str (Str.ofString "") t9) (.str (Str.ofString "") t10)) 7)) (fun _ _ _ _ _ h => h.1)
    (fun x dx s' a _ c e f => machine_init X T a x dx v1 v2 c e f (by omega) (by omega))
    fun x dx s' h' tk F' k1 k2 hold l1 l2 _ ⟨_, t1, t2, t3, t4, t5, t6, t7, t8, t9, t10, stack, frames, hg⟩ => h x dx t1 t2 t3 t4 t5 t6 t7 t8 t9 t10 stack frames h' tk F' (news_cons (k1 _ (.head _)) (news_cons (k2 _ hg (.inl rfl)) (news_all fun q hq => k1 q (.tail _ hq)))) l1 l2
theorem item_disp {value slice : Expr} {d : Addr} {o : Obj} {k : Str} {t : Tok} {v : Value} (N : News g L s.heap news) (hm : (d, o) ∈ news) (hd : o.IsDictOf (PySem.strKind PySem.Challenge.rw_pq0617_01.row.prog w) tblP) (hv : valueAt tblP k = some v)
    (h : Q v { s with toks := s.toks + 1 }) (hs : subscripted slice false (.ref d) (.str k t) = operate [.ref d, .str k t] (getItem (.ref d) (.str k t))) (hg : ∀ r, letTemporaryGo value (.ref d) r = pure ()) :
    wpAny (model PySem.Challenge.rw_pq0617_01.row.prog w) A (subscriptTail value slice (.ref d) (.str k t)) Q E s := by
  have hD : s.heap.DictOf (PySem.strKind PySem.Challenge.rw_pq0617_01.row.prog w) d tblP := Heap.dictOf_iff.mpr ⟨o, N.get hm, hd⟩
  exact subscriptTail_builtin hD.typeIs slot_dict_getitem.lookup (wpAny_getItem_of (knd := PySem.strKind PySem.Challenge.rw_pq0617_01.row.prog w) (by simp [PySem.strKind, Value.isStrOf]) hD.mapOf hv h) hs hg
end
end
theorem fresh_M3 : True ∧ True := by
  k_with_none
  (k_with "binaryOp Pow int int 1" => row_timed "fresh" (fail; (((with_reducible refine Mine.my_pow ?kb1 ?kb2 ?kb3 ?kb4 ?_); (case kb1 => decide); (case kb2 => decide); (case kb3 => first | decide | (with_reducible exact (Mine.pow3_bnd (PySem.W.fmod_lo _ (by decide)) (PySem.W.fmod_hi _ (by decide)) (by assumption) (by assumption)).1) | (with_reducible exact (Mine.pow5_bnd (by assumption) (by assumption)).1)); (case kb4 => first | decide | (with_reducible exact (Mine.pow3_bnd (PySem.W.fmod_lo _ (by decide)) (PySem.W.fmod_hi _ (by decide)) (by assumption) (by assumption)).2) | (with_reducible exact (Mine.pow5_bnd (by assumption) (by assumption)).2)); intro r' hr'))))
  (k_with "m:kroom" => row_timed "fresh" (fail; ((simp only [PyProof.Rows.depth_deeper, PySem.recursionLimit] at *; omega))))
  (k_with "m:zmem" => row_timed "fresh" (fail; (first | with_reducible exact List.Mem.head _ | (with_reducible refine' List.Mem.tail _ ?_; k_extra "m:zmem") | (with_reducible refine mapp_r ?_; k_extra "m:zmem") | (refine mapp_l ?_; assumption))))
  w_top off
  first | (walk1; done) | exact ⟨trivial, trivial⟩
section
section
variable {w : World} {p : Program} {loose : List Str} {mean : ExcName → Option Value} {mg mb : Str → Option Value} {A : Around} {s s₀ : Shared} {g : Heap} {L : Addr} {m : Str → Option Value} {Q : Value → Shared → Prop} {E : Value → Shared → Prop}
  {mx mdx ll tb op dx ddx f1 f2 : Addr} {otb : Obj} {t1 t2 t3 t4 t5 t6 t7 d1 d2 d3 d4 tp tw to ti tl : Tok} {code deeds place stack frames key word v3 v4 v : Value} {nl nd no : Nat} {vs : List Value} {pl l i : Int} {ok : Value → Prop} {tr : Value → Bool} {x : Str}
theorem deed_use (X : (hd.heap_1 w.params).In g) (T : Top p loose mean mg mb g) (hh : A.handled = none) (hd : A.depth ≤ 680) (hu : A.units ≤ 3300) (F : Fr g L s.heap m)
    (N : News g L s.heap [(mx, instObj 338 mdx), (mdx, dictOf (mcE w t1 t2 t3 t4 t5 t6 t7 code (.ref dx) place stack frames key word) 7), (ll, W.listOf vs.toArray nl), (tb, otb)]) (h1 : tb ≠ mdx) (h2 : tb ≠ ll) (hlen : vs.length ≤ 1000)
    (hdx : g.get? dx = some (instObj 511 ddx)) (hdd : g.get? ddx = some (dictOf (deE w d1 d2 d3 d4 (.ref f1) (.ref f2) v3 v4) nd)) (hop : g.get? op = some (tupOf #[.str (Str.ofString "do") to, .int i ti] no))
    (C : DoOk w s₀ f1 ll) (hk : ∀ b o, s₀.heap.get? b = some o → b ≠ ll → g.get? b = some o)
    (h : ∀ tk n' h' tk', Fr g L h' m → News g L h' [(mx, instObj 338 mdx), (mdx, dictOf (mcE w t1 t2 t3 t4 t5 t6 t7 code (.ref dx) place stack frames (.str (Str.ofString "") tk) word) 7), (ll, W.listOf (vs ++ [Value.int i ti]).toArray n'), (tb, otb)] → Q .none { s with heap := h', toks := tk' }) :
    wpAny (model PySem.Challenge.rw_pq0617_01.row.prog w) A (call (.ref 377) [.ref mx, .ref op]) Q E s := by
  have N1 := N _ (.head _)
  have N2 := N _ (.tail _ (.head _))
  have N3 := N _ (.tail _ (.tail _ (.head _)))
  have k0 : s₀.heap.get? mdx = none := by
    cases e : s₀.heap.get? mdx with
    | none => rfl
    | some o => have := hk _ _ e (PySem.W.X.ne_objs _ _ _ _ N2.1 N3.1 rfl); rw [N2.2.2] at this; cases this
  refine use2 (d := 680) (u := 3300) (deed_ok X T F.keep mx mdx op ll dx ddx f1 f2 t1 t2 t3 t4 t5 t6 t7 d1 d2 d3 d4 to ti code place stack frames key word v3 v4 i no nl nd vs N1.1 N2.1 N2.2.2 (F.keep _ _ hdx) (F.keep _ _ hdd) (fun q => by rw [q, N2.2.2] at hdd; cases hdd) (F.keep _ _ hop) N3.1 N3.2.2 hlen C (fun b o e n => F.keep _ _ (hk b o e n)) k0 (Nat.le_of_ble_eq_true rfl) (Nat.le_of_ble_eq_true rfl)) hh hd hu F N ?_ ?_
  · intro b hb
    rcases List.mem_cons.mp hb with rfl | hb
    · exact ⟨_, .tail _ (.head _)⟩
    · rw [List.mem_singleton.mp hb]; exact ⟨_, .tail _ (.tail _ (.head _))⟩
  · rintro _ h' tk F' k1 k2 ⟨rfl, ⟨tk2, e1⟩, n', e2⟩
    refine h tk2 n' h' tk F' (news_cons (k1 _ (.head _) fun hm => ?_) (news_cons (k2 _ e1 (.inl (.head _))) (news_cons (k2 _ e2 (.inl (.tail _ (.head _)))) (k1 _ (.tail _ (.tail _ (.tail _ (.head _)))) fun hm => ?_))))
    · rcases List.mem_cons.mp hm with e | e
      · exact PySem.W.X.ne_objs _ _ _ _ N1.1 N2.1 rfl e
      · exact PySem.W.X.ne_objs _ _ _ _ N1.1 N3.1 rfl (List.mem_singleton.mp e)
    · rcases List.mem_cons.mp hm with e | e
      · exact h1 e
      · exact h2 (List.mem_singleton.mp e)
theorem testd_use {b : Bool} (X : (hd.heap_1 w.params).In g) (T : Top p loose mean mg mb g) (hh : A.handled = none) (hd : A.depth ≤ 680) (hu : A.units ≤ 3300) (F : Fr g L s.heap m)
    (N : News g L s.heap [(mx, instObj 338 mdx), (mdx, dictOf (mcE w t1 t2 t3 t4 t5 t6 t7 code (.ref dx) (.int pl tp) stack frames key word) 7), (ll, W.listOf vs.toArray nl), (tb, otb)]) (h1 : tb ≠ mdx) (h2 : tb ≠ ll) (hlen : vs.length ≤ 1000)
    (hdx : g.get? dx = some (instObj 511 ddx)) (hdd : g.get? ddx = some (dictOf (deE w d1 d2 d3 d4 (.ref f1) (.ref f2) v3 v4) nd)) (hop : g.get? op = some (tupOf #[.str (Str.ofString "test") to, v, .int l tl] no))
    (C : TestOk w s₀ f2 ll ok tr) (hv : ok v) (htr : tr v = b) (hk : ∀ b o, s₀.heap.get? b = some o → b ≠ ll → g.get? b = some o)
    (h : ∀ n' h' tk', Fr g L h' m → News g L h' [(mx, instObj 338 mdx), (mdx, dictOf (mcE w t1 t2 t3 t4 t5 t6 t7 code (.ref dx) (if b then .int pl tp else .int l tl) stack frames key word) 7), (ll, W.listOf (vs ++ [v]).toArray n'), (tb, otb)] → Q .none { s with heap := h', toks := tk' }) :
    wpAny (model PySem.Challenge.rw_pq0617_01.row.prog w) A (call (.ref 391) [.ref mx, .ref op]) Q E s := by
  have N1 := N _ (.head _)
  have N2 := N _ (.tail _ (.head _))
  have N3 := N _ (.tail _ (.tail _ (.head _)))
  have k0 : s₀.heap.get? mdx = none := by
    cases e : s₀.heap.get? mdx with
    | none => rfl
    | some o => have := hk _ _ e (PySem.W.X.ne_objs _ _ _ _ N2.1 N3.1 rfl); rw [N2.2.2] at this; cases this
  refine use2 (d := 680) (u := 3300) (test_ok X T F.keep mx mdx op ll dx ddx f1 f2 t1 t2 t3 t4 t5 t6 t7 d1 d2 d3 d4 to tp tl code stack frames key word v3 v4 v pl l no nl nd vs ok tr b N1.1 N2.1 N2.2.2 (F.keep _ _ hdx) (F.keep _ _ hdd) (fun q => by rw [q, N2.2.2] at hdd; cases hdd) (F.keep _ _ hop) N3.1 N3.2.2 hlen C hv htr (fun b o e n => F.keep _ _ (hk b o e n)) k0 (Nat.le_of_ble_eq_true rfl) (Nat.le_of_ble_eq_true rfl)) hh hd hu F N ?_ ?_
  · intro b hb
    rcases List.mem_cons.mp hb with rfl | hb
    · exact ⟨_, .tail _ (.head _)⟩
    · rw [List.mem_singleton.mp hb]; exact ⟨_, .tail _ (.tail _ (.head _))⟩
  · rintro _ h' tk F' k1 k2 ⟨rfl, e1, n', e2⟩
    refine h n' h' tk F' (news_cons (k1 _ (.head _) fun hm => ?_) (news_cons (k2 _ e1 (.inl (.head _))) (news_cons (k2 _ e2 (.inl (.tail _ (.head _)))) (k1 _ (.tail _ (.tail _ (.tail _ (.head _)))) fun hm => ?_))))
    · rcases List.mem_cons.mp hm with e | e
      · exact PySem.W.X.ne_objs _ _ _ _ N1.1 N2.1 rfl e
      · exact PySem.W.X.ne_objs _ _ _ _ N1.1 N3.1 rfl (List.mem_singleton.mp e)
    · rcases List.mem_cons.mp hm with e | e
      · exact h1 e
      · exact h2 (List.mem_singleton.mp e)
theorem jump_use (X : (hd.heap_1 w.params).In g) (T : Top p loose mean mg mb g) (hh : A.handled = none) (hd : A.depth ≤ 680) (hu : A.units ≤ 3300) (F : Fr g L s.heap m)
    (N : News g L s.heap [(mx, instObj 338 mdx), (mdx, dictOf (mcE w t1 t2 t3 t4 t5 t6 t7 code deeds (.int pl tp) stack frames key word) 7), (ll, W.listOf vs.toArray nl), (tb, otb)]) (h1 : tb ≠ mdx)
    (hop : g.get? op = some (tupOf #[.str (Str.ofString "jump") to, .int l tl] no))
    (h : ∀ h' tk', Fr g L h' m → News g L h' [(mx, instObj 338 mdx), (mdx, dictOf (mcE w t1 t2 t3 t4 t5 t6 t7 code deeds (.int l tl) stack frames key word) 7), (ll, W.listOf vs.toArray nl), (tb, otb)] → Q .none { s with heap := h', toks := tk' }) :
    wpAny (model PySem.Challenge.rw_pq0617_01.row.prog w) A (call (.ref 398) [.ref mx, .ref op]) Q E s := by
  have N1 := N _ (.head _)
  have N2 := N _ (.tail _ (.head _))
  have N3 := N _ (.tail _ (.tail _ (.head _)))
  refine use2 (d := 680) (u := 3300) (jump_ok X T F.keep mx mdx op t1 t2 t3 t4 t5 t6 t7 tp to tl code deeds stack frames key word pl l no N1.1 N2.1 N2.2.2 (F.keep _ _ hop) (Nat.le_of_ble_eq_true rfl)) hh hd hu F N (fun b hb => by rw [List.mem_singleton.mp hb]; exact ⟨_, .tail _ (.head _)⟩) ?_
  rintro _ h' tk F' k1 k2 ⟨rfl, e1⟩
  exact h h' tk F' (news_cons (k1 _ (.head _) fun hm => PySem.W.X.ne_objs _ _ _ _ N1.1 N2.1 rfl (List.mem_singleton.mp hm)) (news_cons (k2 _ e1 (.inl (.head _))) (news_cons (k1 _ (.tail _ (.tail _ (.head _))) fun hm => PySem.W.X.ne_objs _ _ _ _ N3.1 N2.1 rfl (List.mem_singleton.mp hm)) (k1 _ (.tail _ (.tail _ (.tail _ (.head _)))) fun hm => h1 (List.mem_singleton.mp hm)))))
theorem stop_use (X : (hd.heap_1 w.params).In g) (T : Top p loose mean mg mb g) (hh : A.handled = none) (hd : A.depth ≤ 680) (hu : A.units ≤ 3300) (F : Fr g L s.heap m)
    (N : News g L s.heap [(mx, instObj 338 mdx), (mdx, dictOf (mcE w t1 t2 t3 t4 t5 t6 t7 code deeds place stack frames key word) 7), (ll, W.listOf vs.toArray nl), (tb, otb)]) (h1 : tb ≠ mdx)
    (hop : g.get? op = some (tupOf #[.str (Str.ofString "stop") to, .str x tl] no))
    (h : ∀ h' tk', Fr g L h' m → News g L h' [(mx, instObj 338 mdx), (mdx, dictOf (mcE w t1 t2 t3 t4 t5 t6 t7 code deeds place stack frames key (.str x tl)) 7), (ll, W.listOf vs.toArray nl), (tb, otb)] → Q .none { s with heap := h', toks := tk' }) :
    wpAny (model PySem.Challenge.rw_pq0617_01.row.prog w) A (call (.ref 440) [.ref mx, .ref op]) Q E s := by
  have N1 := N _ (.head _)
  have N2 := N _ (.tail _ (.head _))
  have N3 := N _ (.tail _ (.tail _ (.head _)))
  refine use2 (d := 680) (u := 3300) (stop_ok X T F.keep mx mdx op t1 t2 t3 t4 t5 t6 t7 to tl code deeds place stack frames key word x no N1.1 N2.1 N2.2.2 (F.keep _ _ hop) (Nat.le_of_ble_eq_true rfl)) hh hd hu F N (fun b hb => by rw [List.mem_singleton.mp hb]; exact ⟨_, .tail _ (.head _)⟩) ?_
  rintro _ h' tk F' k1 k2 ⟨rfl, e1⟩
  exact h h' tk F' (news_cons (k1 _ (.head _) fun hm => PySem.W.X.ne_objs _ _ _ _ N1.1 N2.1 rfl (List.mem_singleton.mp hm)) (news_cons (k2 _ e1 (.inl (.head _))) (news_cons (k1 _ (.tail _ (.tail _ (.head _))) fun hm => PySem.W.X.ne_objs _ _ _ _ N3.1 N2.1 rfl (List.mem_singleton.mp hm)) (k1 _ (.tail _ (.tail _ (.tail _ (.head _)))) fun hm => h1 (List.mem_singleton.mp hm)))))
end
end
theorem fresh_M4 : True ∧ True := by
  k_with_none
  (k_with "binaryOp Pow int int 1" => row_timed "fresh" (fail; (((with_reducible refine Mine.my_pow ?kb1 ?kb2 ?kb3 ?kb4 ?_); (case kb1 => decide); (case kb2 => decide); (case kb3 => first | decide | (with_reducible exact (Mine.pow3_bnd (PySem.W.fmod_lo _ (by decide)) (PySem.W.fmod_hi _ (by decide)) (by assumption) (by assumption)).1) | (with_reducible exact (Mine.pow5_bnd (by assumption) (by assumption)).1)); (case kb4 => first | decide | (with_reducible exact (Mine.pow3_bnd (PySem.W.fmod_lo _ (by decide)) (PySem.W.fmod_hi _ (by decide)) (by assumption) (by assumption)).2) | (with_reducible exact (Mine.pow5_bnd (by assumption) (by assumption)).2)); intro r' hr'))))
  (k_with "m:kroom" => row_timed "fresh" (fail; ((simp only [PyProof.Rows.depth_deeper, PySem.recursionLimit] at *; omega))))
  (k_with "m:zmem" => row_timed "fresh" (fail; (first | with_reducible exact List.Mem.head _ | (with_reducible refine' List.Mem.tail _ ?_; k_extra "m:zmem") | (with_reducible refine mapp_r ?_; k_extra "m:zmem") | (refine mapp_l ?_; assumption))))
  w_top off
  first | (walk1; done) | exact ⟨trivial, trivial⟩
section
theorem word_28 : True := by
  (k_with "m:inst" => row_timed "fresh" (fail; (first | exact inst_mix (by k_asm) (by k_asm) (by k_asm) (by k_mem) | exact inst_base (by k_asm) (by k_asm) (by k_asm))))
  (k_with "m:room" => row_timed "fresh" (fail; (((try simp only [depth_deeper, units_deeper, AT_depth, AT_units]); omega))))
  (k_with "call ref 1" => ((show wpAny _ _ (call (Value.ref 447) []) _ _ _); refine' table_use ?X ?T ?hh ?hd ?hu ?F ?N ?_; (case X => k_asm); (case T => k_asm); (case hh => rfl); (case hd => k_extra "m:room"); (case hu => k_extra "m:room"); (case F => k_asm); (case N => k_asm); intro tb otb h' tk' hdo F' N' htb; (try k_sweep); (try dsimp only)))
  (k_with "call ref 2" => ((show wpAny _ _ (call (Value.ref 338) [_, _]) _ _ _); refine' machine_use ?X ?T ?hh ?hd ?hu ?F ?N ?_; (case X => k_asm); (case T => k_asm); (case hh => rfl); (case hd => k_extra "m:room"); (case hu => k_extra "m:room"); (case F => k_asm); (case N => k_asm); intro mx mdx m1 m2 m3 m4 m5 m6 m7 m8 m9 m10 stack frames h' tk' F' N' lm1 lm2; (try k_lt lm1); (try k_lt2 lm2); (try k_sweep); (try dsimp only)))
  trivial
theorem hold_in {M : Model} {α : Type} {A : Around} {m : Sem α} {Q : α → Shared → Prop} {E : Value → Shared → Prop} {s : Shared} (h : Hold (wpAny M A m Q E s)) : wpAny M A m Q E s := h
theorem word_29 : True := by
  (k_with "exec While Compare cons nil" => row_timed "fresh" (fail; (refine' hold_in ?_)))
  trivial
theorem len_tupB {w : World} {A : Around} {E : Value → Shared → Prop} {s : Shared} {g : Heap} {L l : Addr} {m : Str → Option Value} {vs : List Value} {n : Nat} {Q : Value → Shared → Prop} (F : Fr g L s.heap m) (hm : g.get? l = some (tupOf vs.toArray n)) (hb : vs.length ≤ 5000)
    (h : Q (.int (vs.length : Nat) (s.toks + 1)) { s with toks := s.toks + 1 + 1 }) : wpAny (model PySem.Challenge.rw_pq0617_01.row.prog w) A (call (.builtin "len") [.ref l]) Q E s := by
  refine len_tuple (items := vs.toArray) (tup_base F hm) ?_ ?_
  · simp only [List.size_toArray]; omega
  · simpa only [List.size_toArray] using h
theorem item_tupSym {w : World} {A : Around} {E : Value → Shared → Prop} {s : Shared} {value slice : Expr} {g : Heap} {L t : Addr} {m : Str → Option Value} {vs : List Value} {n pp : Nat} {u : Tok} {x : Value} {Q : Value → Shared → Prop} (F : Fr g L s.heap m) (hm : g.get? t = some (tupOf vs.toArray n)) (hb : vs.length ≤ 5000) (hx : vs[pp]? = some x) (h : Q x s)
    (hs : subscripted slice false (.ref t) (.int (pp : Nat) u) = operate [.ref t, .int (pp : Nat) u] (getItem (.ref t) (.int (pp : Nat) u))) :
    wpAny (model PySem.Challenge.rw_pq0617_01.row.prog w) A (subscriptTail value slice (.ref t) (.int (pp : Nat) u)) Q E s := by
  have hlt := (List.getElem?_eq_some_iff.mp hx).1
  refine item_tupleT (j := pp) (tup_base F hm) (by omega) (by omega) ?_ hx h hs
  unfold seqIndex?
  have e1 : ¬ ((pp : Nat) : Int) < 0 := by omega
  simp only [e1, if_false]
  simp [hlt]
theorem word_30 : True := by
  (k_with "call builtin:len 1" => row_timed "fresh" (fail; (((with_reducible show wpAny _ _ (call (Value.builtin "len") [Value.ref _]) _ _ _); refine len_tupB (by k_asm) (by k_asm) (by omega) ?_))))
  (k_with "subscriptTail 1" => row_timed "fresh" (fail; (((with_reducible show wpAny _ _ (subscriptTail _ _ (Value.ref _) (Value.str _ _)) _ _ _); k_dflt (refine' item_disp ?N ?m ?d ?v ?_ ?s ?g; (case N => k_asm); (case m => k_mem); (case d => assumption); (case v => exact rfl); (case s => with_unfolding_all rfl); (case g => intro _; with_unfolding_all rfl); k_whole)))))
  (k_with "subscriptTail 2" => row_timed "fresh" (fail; (((with_reducible show wpAny _ _ (subscriptTail _ _ (Value.ref _) (Value.int _ _)) _ _ _); k_dflt (refine' item_tupSym ?F ?m ?b ?x ?_ ?s; (case F => k_asm); (case m => k_asm); (case b => omega); (case x => k_asm); (case s => with_unfolding_all rfl); k_whole)))))
  (k_with "subscriptTail 3" => row_timed "fresh" (fail; (((with_reducible show wpAny _ _ (subscriptTail _ _ (Value.ref _) (Value.int _ _)) _ _ _); k_dflt (refine' item_tupleT ?t ?a ?b ?c ?d ?_; (case t => exact tup_base (by k_asm) (by k_asm)); (case a => decide); (case b => decide); (case c => rfl); (case d => rfl); k_whole)))))
  (k_with "call ref 3" => row_timed "fresh" (fail; (((show wpAny _ _ (call (Value.ref 377) [_, _]) _ _ _); refine' deed_use ?X ?T ?hh ?hd ?hu ?F ?N ?a ?b ?c ?dx ?dd ?op ?C ?k ?_; (case X => k_asm); (case T => k_asm); (case hh => rfl); (case hd => k_extra "m:room"); (case hu => k_extra "m:room"); (case F => k_asm); (case N => k_asm); (case a => assumption); (case b => assumption); (case c => omega); (case dx => k_asm); (case dd => k_asm); (case op => k_asm); (case C => k_asm); (case k => k_asm); intro tk n' h' tk' F' N'; (try k_sweep); (try dsimp only)))))
  (k_with "call ref 4" => row_timed "fresh" (fail; (((show wpAny _ _ (call (Value.ref 391) [_, _]) _ _ _); refine' testd_use ?X ?T ?hh ?hd ?hu ?F ?N ?a ?b ?c ?dx ?dd ?op ?C ?v ?tr ?k ?_; (case X => k_asm); (case T => k_asm); (case hh => rfl); (case hd => k_extra "m:room"); (case hu => k_extra "m:room"); (case F => k_asm); (case N => k_asm); (case a => assumption); (case b => assumption); (case c => omega); (case dx => k_asm); (case dd => k_asm); (case op => k_asm); (case C => k_asm); (case v => assumption); (case tr => assumption); (case k => k_asm); intro n' h' tk' F' N'; (try simp only [if_true, if_false, Bool.false_eq_true] at N'); (try k_sweep); (try dsimp only)))))
  (k_with "call ref 5" => row_timed "fresh" (fail; (((show wpAny _ _ (call (Value.ref 398) [_, _]) _ _ _); refine' jump_use ?X ?T ?hh ?hd ?hu ?F ?N ?a ?op ?_; (case X => k_asm); (case T => k_asm); (case hh => rfl); (case hd => k_extra "m:room"); (case hu => k_extra "m:room"); (case F => k_asm); (case N => k_asm); (case a => assumption); (case op => k_asm); intro h' tk' F' N'; (try k_sweep); (try dsimp only)))))
  (k_with "call ref 6" => row_timed "fresh" (fail; (((show wpAny _ _ (call (Value.ref 440) [_, _]) _ _ _); refine' stop_use ?X ?T ?hh ?hd ?hu ?F ?N ?a ?op ?_; (case X => k_asm); (case T => k_asm); (case hh => rfl); (case hd => k_extra "m:room"); (case hu => k_extra "m:room"); (case F => k_asm); (case N => k_asm); (case a => assumption); (case op => k_asm); intro h' tk' F' N'; (try k_sweep); (try dsimp only)))))
  trivial
theorem ns_step {ov ov' v v' : Option Value} {f : Str → Option Value} : (fun y => if y = Str.ofString "op" then ov' else if y = Str.ofString "steps" then v' else if y = Str.ofString "op" then ov else if y = Str.ofString "steps" then v else f y) = fun y => if y = Str.ofString "op" then ov' else if y = Str.ofString "steps" then v' else f y := by
  funext y
  by_cases h1 : y = Str.ofString "op"
  · simp only [if_pos h1]
  · by_cases h2 : y = Str.ofString "steps"
    · simp only [if_neg h1, if_pos h2]
    · simp only [if_neg h1, if_neg h2]
inductive LogIs : List Value → List LI → Prop where
  | nil : LogIs [] []
  | num {vs ls} (i : Int) (t : Tok) (h : LogIs vs ls) : LogIs (vs ++ [.int i t]) (ls ++ [.num i])
  | cnd {vs ls} (v : Value) (h : LogIs vs ls) : LogIs (vs ++ [v]) (ls ++ [.cnd v])
set_option maxHeartbeats 8000000 in
theorem run_ok {w : World} {d u : Nat} {s : Shared} {hb : Heap} {p : Program} {loose : List Str} {mean : ExcName → Option Value} {mg mb : Str → Option Value}
    (X : (hd.heap_1 w.params).In hb) (T : Top p loose mean mg mb hb) (hK : hb.StaysIn s.heap)
    (cx cdx ot bt dx ddx ll f1 f2 : Addr) (c1 c2 d1 d2 d3 d4 tl : Tok) (v3 v4 : Value) (ys : List Value) (fops : List Op) (no nl0 nd nc : Nat) (ok : Value → Prop) (tr : Value → Bool) (fuel : Nat) (x : Str) (lg : List LI)
    (hcx : s.heap.get? cx = some (instObj 46 cdx)) (hcd : s.heap.get? cdx = some (dictOf (codE w c1 c2 ot bt) nc)) (hot : s.heap.get? ot = some (tupOf ys.toArray no))
    (hdx : s.heap.get? dx = some (instObj 511 ddx)) (hdd : s.heap.get? ddx = some (dictOf (deE w d1 d2 d3 d4 (.ref f1) (.ref f2) v3 v4) nd))
    (hll : s.heap.get? ll = some (W.listOf [].toArray nl0)) (hlf : hb.get? ll = none)
    (hops : OpsAt (fun b ob => s.heap.get? b = some ob) ys fops) (C1 : DoOk w s f1 ll) (C2 : TestOk w s f2 ll ok tr)
    (hok : ∀ v l, Op.test v l ∈ fops → ok v) (hlab : ∀ op ∈ fops, ∀ l, op.lab = some l → 0 ≤ l) (hlen : fops.length ≤ 1000)
    (hrun : runA fops tr fuel 0 [] = some (x, lg)) (hfu : fuel ≤ 300) (hx : (x == Str.ofString "") = false) (hD : d + 20 ≤ 600) (hU : u + 200 ≤ 3000) :
    Fn w (AT d u) s 454 [.ref cx, .ref dx, .int 300 tl] [ll] (fun h r => (∃ t, r = .str x t) ∧ ∃ vs n', h.get? ll = some (W.listOf vs.toArray n') ∧ LogIs vs lg) := by
  refine enter (K := hd.heap_1 w.params) (binds := [(Str.ofString "code", .ref cx), (Str.ofString "deeds", .ref dx), (Str.ofString "limit", .int 300 tl)]) [(ll, W.listOf [].toArray nl0)] X T hK ?_ (by k_is) (by k_is) (by simp only [recursionLimit]; omega) (BindsTo.of_eq rfl) (locs rfl) ?_ rfl rfl rfl (by decide)
  · intro q hq; cases hq with
    | head => exact ⟨hll, hlf⟩
    | tail _ h => cases h
  intro g' L' h' Kg F' N' l1 X' T' S'
  k_lt l1
  have nl : ∀ (b : Addr) (o : Obj), s.heap.get? b = some o → b ≠ ll → g'.get? b = some o := fun b o e n => Kg _ _ e (nin1 n)
  have hcxg := nl _ _ hcx (PySem.W.X.ne_objs _ _ _ _ hcx hll rfl)
  have hcdg := nl _ _ hcd (PySem.W.X.ne_objs _ _ _ _ hcd hll rfl)
  have hotg := nl _ _ hot (PySem.W.X.ne_objs _ _ _ _ hot hll rfl)
  have hdxg := nl _ _ hdx (PySem.W.X.ne_objs _ _ _ _ hdx hll rfl)
  have hddg := nl _ _ hdd (PySem.W.X.ne_objs _ _ _ _ hdd hll rfl)
  show wpAny _ _ _ _ _ _
  k_fold
  w_strict (k_steps)
  unfold Hold
  have hyl := hops.length
  have hopg : OpsAt (fun b ob => g'.get? b = some ob) ys fops := hops.monoT fun a vs n e => nl _ _ e (PySem.W.X.ne_objs _ _ _ _ e hll rfl)
  have htm : tb ≠ mdx := fun e => htb _ (.tail _ (.head _)) e.symm
  have htl : tb ≠ ll := fun e => htb _ (.tail _ (.tail _ (.head _))) e.symm
  refine While_inv (n₀ := fuel + 1) (fun n m news => ∃ (ov : Option Value) (st : Nat) (ts tp tk tw : Tok) (pp : Nat) (kk ww : Str) (vs : List Value) (nv : Nat) (log : List LI),
      m = (fun y => if y = Str.ofString "op" then ov else if y = Str.ofString "steps" then some (.int (st : Nat) ts) else if y = Str.ofString "table" then some (.ref tb) else if y = Str.ofString "machine" then some (.ref mx) else List.lookup y [(Str.ofString "code", Value.ref cx), (Str.ofString "deeds", Value.ref dx), (Str.ofString "limit", Value.int 300 tl)].reverse) ∧
      news = [(mx, instObj 338 mdx), (mdx, dictOf (mcE w m1 m2 m3 m4 m5 m6 m7 (.ref cx) (.ref dx) (.int (pp : Nat) tp) stack frames (.str kk tk) (.str ww tw)) 7), (ll, W.listOf vs.toArray nv), (tb, otb)] ∧
      LogIs vs log ∧ vs.length ≤ st ∧ ((ww = Str.ofString "" ∧ ∃ f, n = f + 1 ∧ st + f ≤ 300 ∧ runA fops tr f pp log = some (x, lg)) ∨ (n = 0 ∧ ww = x ∧ log = lg))) (by assumption) (news_sub (by assumption) (l := [(mx, instObj 338 mdx), (mdx, dictOf (mcE w m1 m2 m3 m4 m5 m6 m7 (.ref cx) (.ref dx) (.int (0 : Nat) m8) stack frames (.str (Str.ofString "") m9) (.str (Str.ofString "") m10)) 7), (ll, W.listOf [].toArray nl0), (tb, otb)]) ?_) ?_ ?_
  · intro q hq
    simp only [List.mem_cons, List.mem_nil_iff, or_false] at hq ⊢
    rcases hq with rfl | rfl | rfl | rfl
    · exact .inr (.inl rfl)
    · exact .inr (.inr (.inl rfl))
    · exact .inr (.inr (.inr rfl))
    · exact .inl rfl
  · refine' ⟨none, 0, ?ts, m8, m9, m10, 0, Str.ofString "", Str.ofString "", [], nl0, [], funext fun y => ?_, rfl, .nil, Nat.zero_le _, .inl ⟨rfl, fuel, rfl, by omega, hrun⟩⟩
    rotate_left
    by_cases h : y = Str.ofString "op"
    · subst h; rfl
    · rw [if_neg h]; rfl
  · rintro n m₁ news₁ h₁ tk₁ F₁ N₁ ⟨ov, st, ts, tp, tk, tw, pp, kk, ww, vs, nv, log, rfl, rfl, hlog, hvl, hst⟩
    rcases hst with ⟨rfl, f, rfl, hsf, hr⟩ | ⟨rfl, rfl, rfl⟩
    · obtain ⟨f', rfl⟩ : ∃ f', f = f' + 1 := by
        cases f with
        | zero => cases hr
        | succ f' => exact ⟨f', rfl⟩
      obtain ⟨o, ho⟩ : ∃ o, fops[pp]? = some o := by
        cases e : fops[pp]? with
        | none => simp [runA, e] at hr
        | some o => exact ⟨o, rfl⟩
      have hplt : pp < ys.length := by rw [hyl]; exact (List.getElem?_eq_some_iff.mp ho).1
      obtain ⟨y, hy⟩ : ∃ y, ys[pp]? = some y := ⟨_, List.getElem?_eq_getElem hplt⟩
      obtain ⟨o', ho', hat⟩ := hopg.get hy
      rw [ho] at ho'; cases ho'
      have hin : o ∈ fops := List.mem_of_getElem? ho
      have hys : ys.length ≤ 1000 := by omega
      cases hat with
      | @doo a i nn ta tb' ha =>
        have hr' : runA fops tr f' (pp + 1) (log ++ [.num i]) = some (x, lg) := by simpa [runA, ho] using hr
        show wpAny _ _ _ _ _ _
        k_fold
        w_strict (k_steps)
        rename_i F9 N9
        exact WhileStep.intro F9 N9 (Nat.lt_succ_self _) ⟨_, st + 1, _, _, _, _, pp + 1, _, _, _, _, _, ns_step, rfl, .num _ _ hlog, by simp only [List.length_append, List.length_cons, List.length_nil]; omega, .inl ⟨rfl, f', rfl, by omega, hr'⟩⟩
      | @stop a xx nn ta tb' ha =>
        obtain ⟨rfl, rfl⟩ : xx = x ∧ log = lg := by simpa [runA, ho] using hr
        show wpAny _ _ _ _ _ _
        k_fold
        w_strict (k_steps)
        rename_i F9 N9
        exact WhileStep.intro F9 N9 (Nat.succ_pos _) ⟨_, st + 1, _, _, _, _, pp + 1, _, _, _, _, _, ns_step, rfl, hlog, by omega, .inr ⟨rfl, rfl, rfl⟩⟩
      | @jump a l nn ta tb' ha =>
        obtain ⟨k, rfl⟩ := Int.eq_ofNat_of_zero_le (hlab _ hin l rfl)
        have hr' : runA fops tr f' k log = some (x, lg) := by simpa [runA, ho] using hr
        show wpAny _ _ _ _ _ _
        k_fold
        w_strict (k_steps)
        rename_i F9 N9
        exact WhileStep.intro F9 N9 (Nat.lt_succ_self _) ⟨_, st + 1, _, _, _, _, k, _, _, _, _, _, ns_step, rfl, hlog, by omega, .inl ⟨rfl, f', rfl, by omega, hr'⟩⟩
      | @test a v l nn ta tb' ha =>
        obtain ⟨k, rfl⟩ := Int.eq_ofNat_of_zero_le (hlab _ hin l rfl)
        have hv := hok _ _ hin
        cases htr : tr v with
        | false =>
          have hr' : runA fops tr f' k (log ++ [.cnd v]) = some (x, lg) := by simpa [runA, ho, htr] using hr
          show wpAny _ _ _ _ _ _
          k_fold
          w_strict (k_steps)
          rename_i F9 N9
          exact WhileStep.intro F9 N9 (Nat.lt_succ_self _) ⟨_, st + 1, _, _, _, _, k, _, _, _, _, _, ns_step, rfl, .cnd _ hlog, by simp only [List.length_append, List.length_cons, List.length_nil]; omega, .inl ⟨rfl, f', rfl, by omega, hr'⟩⟩
        | true =>
          have hr' : runA fops tr f' (pp + 1) (log ++ [.cnd v]) = some (x, lg) := by simpa [runA, ho, htr] using hr
          show wpAny _ _ _ _ _ _
          k_fold
          w_strict (k_steps)
          rename_i F9 N9
          exact WhileStep.intro F9 N9 (Nat.lt_succ_self _) ⟨_, st + 1, _, _, _, _, pp + 1, _, _, _, _, _, ns_step, rfl, .cnd _ hlog, by simp only [List.length_append, List.length_cons, List.length_nil]; omega, .inl ⟨rfl, f', rfl, by omega, hr'⟩⟩
    · show wpAny _ _ _ _ _ _
      k_fold
      w_strict (k_steps)
      show BodyEnd _ _ _ _ _
      exact ⟨_, _, rfl, Fr.keep (by assumption), ⟨_, rfl⟩, vs, nv, News.get (by assumption) (.tail _ (.tail _ (.head _))), hlog⟩
end
theorem fresh_L1 : True ∧ True := by
  k_with_none
  (k_with "binaryOp Pow int int 1" => row_timed "fresh" (fail; (((with_reducible refine Mine.my_pow ?kb1 ?kb2 ?kb3 ?kb4 ?_); (case kb1 => decide); (case kb2 => decide); (case kb3 => first | decide | (with_reducible exact (Mine.pow3_bnd (PySem.W.fmod_lo _ (by decide)) (PySem.W.fmod_hi _ (by decide)) (by assumption) (by assumption)).1) | (with_reducible exact (Mine.pow5_bnd (by assumption) (by assumption)).1)); (case kb4 => first | decide | (with_reducible exact (Mine.pow3_bnd (PySem.W.fmod_lo _ (by decide)) (PySem.W.fmod_hi _ (by decide)) (by assumption) (by assumption)).2) | (with_reducible exact (Mine.pow5_bnd (by assumption) (by assumption)).2)); intro r' hr'))))
  (k_with "m:kroom" => row_timed "fresh" (fail; ((simp only [PyProof.Rows.depth_deeper, PySem.recursionLimit] at *; omega))))
  (k_with "m:zmem" => row_timed "fresh" (fail; (first | with_reducible exact List.Mem.head _ | (with_reducible refine' List.Mem.tail _ ?_; k_extra "m:zmem") | (with_reducible refine mapp_r ?_; k_extra "m:zmem") | (refine mapp_l ?_; assumption))))
  w_top off
  first | (walk1; done) | exact ⟨trivial, trivial⟩
section
theorem word_31 : True := by
  (k_with "m:inst" => row_timed "fresh" (fail; (first | exact inst_mix (by k_asm) (by k_asm) (by k_asm) (by k_mem) | exact inst_base (by k_asm) (by k_asm) (by k_asm))))
  (k_with "m:room" => row_timed "fresh" (fail; (((try simp only [depth_deeper, units_deeper, AT_depth, AT_units]); omega))))
  (k_with "False" => row_timed "fresh" (fail; ((have fa := find_A; have fb := find_B; have fc := find_C; have fd := find_D; omega))))
  (k_with "subscriptTail 1" => row_timed "fresh" (fail; (((with_reducible show wpAny _ _ (subscriptTail _ _ (Value.ref _) (Value.int _ _)) _ _ _); k_dflt (refine' item_base ?F ?l ?a ?b ?x ?_; (case F => k_asm); (case l => k_asm); (case x => first | exact rfl | ((try simp only [find_A, find_B, find_C, find_D]); exact rfl)); (case a => first | decide | ((try simp only [find_A, find_B, find_C, find_D]); decide)); (case b => first | decide | ((try simp only [find_A, find_B, find_C, find_D]); decide)); k_whole)))))
  (k_with "subscriptTail 2" => row_timed "fresh" (fail; (((with_reducible show wpAny _ _ (subscriptTail _ _ (Value.ref _) (Value.int _ _)) _ _ _); k_dflt (refine' item_tupleT ?t ?a ?b ?c ?d ?_; (case t => exact tup_base (by k_asm) (by k_asm)); (case a => decide); (case b => decide); (case c => rfl); (case d => rfl); k_whole)))))
  trivial
/-- _law_noted -/
theorem noted_ok {w : World} {d u : Nat} {s : Shared} {hb : Heap} {p : Program} {loose : List Str} {mean : ExcName → Option Value} {mg mb : Str → Option Value}
    (X : (hd.heap_1 w.params).In hb) (T : Top p loose mean mg mb hb) (hK : hb.StaysIn s.heap) (v : Value) (ll : Addr) (vs : List Value) (n : Nat)
    (hll : s.heap.get? ll = some (W.listOf vs.toArray n)) (hlf : hb.get? ll = none) (hlen : vs.length ≤ 1000) (hD : d ≤ 800) (hU : u ≤ 4000) :
    Fn w (AT d u) s 560 [v, .ref ll] [ll] (fun h r => (∃ t', r = .str (Str.ofString "") t') ∧ ∃ n', h.get? ll = some (W.listOf (vs ++ [v]).toArray n')) := by
  refine enter (K := hd.heap_1 w.params) (binds := [(Str.ofString "one", v), (Str.ofString "log", .ref ll)]) [(ll, W.listOf vs.toArray n)] X T hK ?_ (by k_is) (by k_is) (by simp only [recursionLimit]; omega) (BindsTo.of_eq rfl) (locs rfl) ?_ rfl rfl rfl (by decide)
  · intro q hq; cases hq with
    | head => exact ⟨hll, hlf⟩
    | tail _ h => cases h
  intro g' L' h' Kg F' N' l1 X' T' S'
  k_lt l1
  show wpAny _ _ _ _ _ _
  k_fold
  w_strict (k_steps)
  show BodyEnd _ _ _ _ _
  exact ⟨_, _, rfl, Fr.keep (by assumption), ⟨_, rfl⟩, _, getPush (News.get (by assumption) (.head _))⟩
theorem word_32 : True := by
  (k_with "call type:tuple" => row_timed "fresh" (fail; (((with_reducible show wpAny _ _ (call (Value.type "tuple") [Value.ref _]) _ _ _); k_dflt (refine' call_tuple_same ?h ?_; (case h => exact tup_base (by k_asm) (by k_asm)); k_whole)))))
  trivial
/-- Code.told -/
theorem told_ok {w : World} {d u : Nat} {s : Shared} {hb : Heap} {p : Program} {loose : List Str} {mean : ExcName → Option Value} {mg mb : Str → Option Value}
    (X : (hd.heap_1 w.params).In hb) (T : Top p loose mean mg mb hb) (hK : hb.StaysIn s.heap) (cx cdx ot bt : Addr) (c1 c2 : Tok) (nc no nb : Nat) (ys : List Value)
    (hcx : s.heap.get? cx = some (instObj 46 cdx)) (hcd : s.heap.get? cdx = some (dictOf (codE w c1 c2 ot bt) nc)) (hot : s.heap.get? ot = some (tupOf ys.toArray no)) (hbt : s.heap.get? bt = some (tupOf #[] nb)) (hlen : ys.length ≤ 1000) (hD : d ≤ 800) (hU : u ≤ 4000) :
    Fn w (AT d u) s 43 [.ref cx] [] (fun h r => ∃ a n, r = .ref a ∧ h.get? a = some (tupOf #[.ref ot, .ref bt] n) ∧ s.heap.get? a = none) := by
  refine enter (K := hd.heap_1 w.params) (binds := [(Str.ofString "self", .ref cx)]) [] X T hK (fun _ h => nomatch h) (by k_is) (by k_is) (by simp only [recursionLimit]; omega) (BindsTo.of_eq rfl) (locs rfl) ?_ rfl rfl rfl (by decide)
  intro g' L' h' Kg F' N' l1 X' T' S'
  have hcxg := Kg _ _ hcx (fun h => nomatch h)
  have hcdg := Kg _ _ hcd (fun h => nomatch h)
  have hotg := Kg _ _ hot (fun h => nomatch h)
  have hbtg := Kg _ _ hbt (fun h => nomatch h)
  show wpAny _ _ _ _ _ _
  k_fold
  w_strict (k_steps)
  show BodyEnd _ _ _ _ _
  exact ⟨_, _, rfl, Fr.keep (by assumption), _, _, rfl, News.get (by assumption) (.head _), fresh_in Kg (by assumption) (.head _) (fun h => nomatch h)⟩
/-- _law_asked -/
theorem asked_ok {w : World} {d u : Nat} {s : Shared} {hb : Heap} {p : Program} {loose : List Str} {mean : ExcName → Option Value} {mg mb : Str → Option Value}
    (X : (hd.heap_1 w.params).In hb) (T : Top p loose mean mg mb hb) (hK : hb.StaysIn s.heap) (v : Value) (k : Nat) (ll tl : Addr) (vs : List Value) (n nt : Nat) (b0 b1 b2 b3 : Bool)
    (hc : CnAt (fun b ob => s.heap.get? b = some ob) v (.leaf v k)) (htl : s.heap.get? tl = some (W.listOf [.bool b0, .bool b1, .bool b2, .bool b3].toArray nt)) (hne : tl ≠ ll)
    (hll : s.heap.get? ll = some (W.listOf vs.toArray n)) (hlf : hb.get? ll = none) (hlen : vs.length ≤ 1000) (hD : d ≤ 800) (hU : u ≤ 4000) :
    Fn w (AT d u) s 567 [v, .ref tl, .ref ll] [ll] (fun h r => r = .bool ([b0, b1, b2, b3].getD k false) ∧ ∃ n', h.get? ll = some (W.listOf (vs ++ [v]).toArray n')) := by
  refine enter (K := hd.heap_1 w.params) (binds := [(Str.ofString "cond", v), (Str.ofString "truths", .ref tl), (Str.ofString "log", .ref ll)]) [(ll, W.listOf vs.toArray n)] X T hK ?_ (by k_is) (by k_is) (by simp only [recursionLimit]; omega) (BindsTo.of_eq rfl) (locs rfl) ?_ rfl rfl rfl (by decide)
  · intro q hq; cases hq with
    | head => exact ⟨hll, hlf⟩
    | tail _ h => cases h
  intro g' L' h' Kg F' N' l1 X' T' S'
  k_lt l1
  have htg := Kg _ _ htl (nin1 hne)
  have tup : ∀ {b : Addr} {vs : Array Value} {n : Nat}, s.heap.get? b = some (tupOf vs n) → g'.get? b = some (tupOf vs n) := fun e => Kg _ _ e (nin1 (PySem.W.X.ne_objs _ _ _ _ e hll rfl))
  cases hc with
  | @leaf a b e1 e2 k n1 n2 n3 n4 t1 t2 t3 t4 x hk hx ha hb he1 he2 =>
    have hag := tup ha
    have hbg := tup hb
    subst hx
    match k, hk with
    | 0, _ =>
      simp only [letter] at hb hbg
      show wpAny _ _ _ _ _ _
      k_fold
      w_strict (k_steps)
      show BodyEnd _ _ _ _ _
      exact ⟨_, _, rfl, Fr.keep (by assumption), rfl, _, getPush (News.get (by assumption) (.head _))⟩
    | 1, _ =>
      simp only [letter] at hb hbg
      show wpAny _ _ _ _ _ _
      k_fold
      w_strict (k_steps)
      show BodyEnd _ _ _ _ _
      exact ⟨_, _, rfl, Fr.keep (by assumption), rfl, _, getPush (News.get (by assumption) (.head _))⟩
    | 2, _ =>
      simp only [letter] at hb hbg
      show wpAny _ _ _ _ _ _
      k_fold
      w_strict (k_steps)
      show BodyEnd _ _ _ _ _
      exact ⟨_, _, rfl, Fr.keep (by assumption), rfl, _, getPush (News.get (by assumption) (.head _))⟩
    | 3, _ =>
      simp only [letter] at hb hbg
      show wpAny _ _ _ _ _ _
      k_fold
      w_strict (k_steps)
      show BodyEnd _ _ _ _ _
      exact ⟨_, _, rfl, Fr.keep (by assumption), rfl, _, getPush (News.get (by assumption) (.head _))⟩
end
theorem fresh_L2 : True ∧ True := by
  k_with_none
  (k_with "binaryOp Pow int int 1" => row_timed "fresh" (fail; (((with_reducible refine Mine.my_pow ?kb1 ?kb2 ?kb3 ?kb4 ?_); (case kb1 => decide); (case kb2 => decide); (case kb3 => first | decide | (with_reducible exact (Mine.pow3_bnd (PySem.W.fmod_lo _ (by decide)) (PySem.W.fmod_hi _ (by decide)) (by assumption) (by assumption)).1) | (with_reducible exact (Mine.pow5_bnd (by assumption) (by assumption)).1)); (case kb4 => first | decide | (with_reducible exact (Mine.pow3_bnd (PySem.W.fmod_lo _ (by decide)) (PySem.W.fmod_hi _ (by decide)) (by assumption) (by assumption)).2) | (with_reducible exact (Mine.pow5_bnd (by assumption) (by assumption)).2)); intro r' hr'))))
  (k_with "m:kroom" => row_timed "fresh" (fail; ((simp only [PyProof.Rows.depth_deeper, PySem.recursionLimit] at *; omega))))
  (k_with "m:zmem" => row_timed "fresh" (fail; (first | with_reducible exact List.Mem.head _ | (with_reducible refine' List.Mem.tail _ ?_; k_extra "m:zmem") | (with_reducible refine mapp_r ?_; k_extra "m:zmem") | (refine mapp_l ?_; assumption))))
  w_top off
  first | (walk1; done) | exact ⟨trivial, trivial⟩
section
section
variable {w : World} {p : Program} {loose : List Str} {mean : ExcName → Option Value} {mg mb : Str → Option Value} {A : Around} {s : Shared} {g : Heap} {L : Addr} {m : Str → Option Value} {Q : Value → Shared → Prop} {E : Value → Shared → Prop} {news rest : List (Addr × Obj)}
theorem pen_use {S : Addr} {vs : List Value} {ns : List Int} (X : (hd.heap_1 w.params).In g) (T : Top p loose mean mg mb g) (hh : A.handled = none) (hd : A.depth ≤ 900) (hu : A.units ≤ 5000) (F : Fr g L s.heap m) (N : News g L s.heap news)
    (hI : g.IsList S vs.toArray) (hns : IntsAre vs ns) (hln : ns.length ≤ 63)
    (h : ∀ a I oI cells ns' t1 t2 n' h' tk, oI.cls = .type "list" → (∃ k, oI.data = .seq (cells : List Value).toArray k) → IntsAre cells ns' → ns'.length ≤ 63 → I ≠ a → Fr g L h' m → News g L h' ((a, W.listOf #[.ref I, .int 0 t1, .int 0 t2] n') :: (I, oI) :: news) → (∀ q ∈ news, q.1 ≠ a ∧ q.1 ≠ I) → Q (.ref a) { s with heap := h', toks := tk }) :
    wpAny (model PySem.Challenge.rw_pq0617_01.row.prog w) A (call (.ref 520) [.ref S]) Q E s := by
  have hIs : s.heap.IsList S vs.toArray := by obtain ⟨o, ho, r⟩ := hI; exact ⟨o, F.keep _ _ ho, r⟩
  refine use2 (d := 900) (u := 5000) (pen_ok X T F.keep S vs ns hIs hns hln (Nat.le_refl _) (Nat.le_refl _)) hh hd hu F N (fun _ h => nomatch h) ?_
  rintro _ h' tk F' k1 k2 ⟨a, I, cells, ns', t1, t2, n', rfl, ha, ⟨oI, hoI, hc, hdt⟩, hns', hl', fa, fI, hne⟩
  refine h a I oI cells ns' t1 t2 n' h' tk hc hdt hns' hl' hne F' (news_cons (k2 _ ha (.inr fa)) (news_cons (k2 (I, oI) hoI (.inr fI)) (news_all fun q hq => k1 q hq fun h => nomatch h))) fun q hq => ⟨fun e => ?_, fun e => ?_⟩
  · rw [← e, (N q hq).1] at fa; cases fa
  · rw [← e, (N q hq).1] at fI; cases fI
theorem condL_use {n : Nat} {a I : Addr} {oI : Obj} {cells : List Value} {ns : List Int} {spot left k : Int} {t0 t1 t2 : Tok} {n' : Nat}
    (X : (hd.heap_1 w.params).In g) (T : Top p loose mean mg mb g) (hh : A.handled = none) (hd : A.depth + n + 20 ≤ 900) (hu : A.units + 10 * n + 40 ≤ 5000)
    (F : Fr g L s.heap m) (N : News g L s.heap ((a, W.listOf #[.ref I, .int spot t1, .int left t2] n') :: (I, oI) :: rest)) (hne : I ≠ a) (ho : ∀ q ∈ rest, q.1 ≠ a ∧ q.1 ≠ I)
    (hIc : oI.cls = .type "list") (hId : ∃ k, oI.data = .seq cells.toArray k) (hns : IntsAre cells ns) (hln : ns.length ≤ 63) (h0 : 0 ≤ spot) (h1 : spot + dr n < 1000) (hk : k = (n : Int))
    (h : ∀ v c R spot' left' t1' t2' n'' h' tk, CnAt (fun b o => (b, o) ∈ R) v c → c.deep ≤ n → (∀ q ∈ R, q.1 ≠ a ∧ q.1 ≠ I) → (∀ q ∈ R, ∀ q' ∈ rest, q'.1 ≠ q.1) → spot ≤ spot' → spot' ≤ spot + dr n → Fr g L h' m →
      News g L h' ((a, W.listOf #[.ref I, .int spot' t1', .int left' t2'] n'') :: (I, oI) :: (R ++ rest)) → Q v { s with heap := h', toks := tk }) :
    wpAny (model PySem.Challenge.rw_pq0617_01.row.prog w) A (call (.ref 534) [.ref a, .int k t0]) Q E s := by
  have N1 := N _ (.head _)
  have N2 := N _ (.tail _ (.head _))
  refine use2 (d := A.depth) (u := A.units) (cond_ok w n X T F.keep a I cells ns spot left k t0 t1 t2 n' ⟨oI, N2.1, hIc, hId⟩ hns hln hne N1.1 N1.2.2 hd hu h0 h1 hk) hh (Nat.le_refl _) (Nat.le_refl _) F N (fun b hb => by rw [List.mem_singleton.mp hb]; exact ⟨_, .head _⟩) ?_
  rintro v h' tk F' k1 k2 ⟨c, spot', left', t1', t2', n'', hc, hdp, ha, e1, e2⟩
  obtain ⟨R, hR, hcR⟩ := hc.list
  refine h v c R spot' left' t1' t2' n'' h' tk hcR hdp (fun q hq => ⟨fun e => ?_, fun e => ?_⟩) (fun q hq q' hq' e => ?_) e1 e2 F' (news_cons (k2 _ ha (.inl (.head _))) (news_cons (k1 _ (.tail _ (.head _)) fun hm => hne (List.mem_singleton.mp hm)) (news_app (news_all fun q hq => k2 q (hR q hq).1 (.inr (hR q hq).2)) (news_all fun q hq => k1 q (.tail _ (.tail _ hq)) fun hm => (ho q hq).1 (List.mem_singleton.mp hm)))))
  · have := (hR q hq).2; rw [e, N1.1] at this; cases this
  · have := (hR q hq).2; rw [e, N2.1] at this; cases this
  · have := (hR q hq).2; rw [← e, (N q' (.tail _ (.tail _ hq'))).1] at this; cases this
theorem drawL_use {a I : Addr} {oI : Obj} {cells : List Value} {ns : List Int} {spot left many : Int} {t0 t1 t2 : Tok} {n' : Nat}
    (X : (hd.heap_1 w.params).In g) (T : Top p loose mean mg mb g) (hh : A.handled = none) (hd : A.depth ≤ 900) (hu : A.units ≤ 5000)
    (F : Fr g L s.heap m) (N : News g L s.heap ((a, W.listOf #[.ref I, .int spot t1, .int left t2] n') :: (I, oI) :: rest)) (hne : I ≠ a) (ho : ∀ q ∈ rest, q.1 ≠ a)
    (hIc : oI.cls = .type "list") (hId : ∃ k, oI.data = .seq cells.toArray k) (hns : IntsAre cells ns) (hln : ns.length ≤ 63) (h0 : 0 ≤ spot) (h1 : spot < 1000) (h3 : 1 ≤ many) (h4 : many ≤ 64)
    (h : ∀ d t h' tk, 0 ≤ d → d < many → Fr g L h' m → News g L h' rest → Q (.int d t) { s with heap := h', toks := tk }) :
    wpAny (model PySem.Challenge.rw_pq0617_01.row.prog w) A (call (.ref 527) [.ref a, .int many t0]) Q E s := by
  have N1 := N _ (.head _)
  have N2 := N _ (.tail _ (.head _))
  refine use2 (d := 900) (u := 5000) (draw_ok X T F.keep a I cells ns spot left many t0 t1 t2 n' ⟨oI, N2.1, hIc, hId⟩ hns hln hne N1.1 N1.2.2 (Nat.le_refl _) (Nat.le_refl _) h0 h1 h3 h4) hh hd hu F N (fun b hb => by rw [List.mem_singleton.mp hb]; exact ⟨_, .head _⟩) ?_
  rintro _ h' tk F' k1 k2 ⟨d, t, rfl, e1, e2, _⟩
  exact h d t h' tk e1 e2 F' (news_all fun q hq => k1 q (.tail _ (.tail _ hq)) fun hm => ho q hq (List.mem_singleton.mp hm))
theorem drafted_use {v : Value} {c : Cn} {wn : Bool} {tab : Array Value} (X : (hd.heap_1 w.params).In g) (T : Top p loose mean mg mb g) (hh : A.handled = none) (hd : A.depth + c.deep + 60 ≤ 700) (hu : A.units + 10 * c.deep + 300 ≤ 3800) (F : Fr g L s.heap m)
    (N : News g L s.heap ((111, tabObj tab) :: rest)) (hoff : ∀ q ∈ rest, q.1 ≠ 111) (hC : CodeHd g 113 111) (hc : CnAt (fun b ob => s.heap.get? b = some ob) v c) (ht : TabOk1 58 36 lamQ (fun b ob => s.heap.get? b = some ob) tab) (hsz : c.size ≤ 100)
    (h : ∀ r0 nr cx cdx ot bt t1 t2 t3 ys n n4 n5 tab' R R2 h' tk, Fr g L h' m → News g L h' ((r0, tupOf #[.ref cx, .int (begOf c wn : Nat) t3] nr) :: (cx, instObj 46 cdx) :: (cdx, dictOf (codE w t1 t2 ot bt) n) :: (ot, tupOf ys.toArray n4) :: (bt, tupOf #[] n5) :: (111, tabObj tab') :: (R ++ (R2 ++ rest))) →
      (∀ q ∈ R, ∀ q' ∈ (111, tabObj tab) :: rest, q'.1 ≠ q.1) → (∀ q ∈ R2, q.1 ≠ 111) → (∀ q' ∈ (111, tabObj tab) :: rest, q'.1 ≠ r0 ∧ q'.1 ≠ cx ∧ q'.1 ≠ cdx ∧ q'.1 ≠ ot ∧ q'.1 ≠ bt) → OpsAt (fun b ob => (b, ob) ∈ R) ys (finOps c wn) → TabOk1 58 36 lamQ (fun b ob => (b, ob) ∈ R2 ∨ g.get? b = some ob) tab' → Q (.ref r0) { s with heap := h', toks := tk }) :
    wpAny (model PySem.Challenge.rw_pq0617_01.row.prog w) A (call (.ref 553) [v, .bool wn]) Q E s := by
  have hN := N _ (.head _)
  refine use2 (d := A.depth) (u := A.units) (drafted_ok X T F.keep hC v c wn tab hc hN.1 hN.2.2 ht hsz hd hu) hh (Nat.le_refl _) (Nat.le_refl _) F N (fun b hb => by rw [List.mem_singleton.mp hb]; exact ⟨_, .head _⟩) ?_
  rintro _ h' tk F' k1 k2 ⟨r0, nr, cx, cdx, ot, bt, t1, t2, t3, ys, n, n4, n5, tab', rfl, e0, e1, e2, e3, e4, f0, f1, f2, f3, f4, hops, etab, htab⟩
  obtain ⟨R, hR, hopsR⟩ := hops.list
  obtain ⟨oL, es, ep, hL, hLd, hLk, hLf⟩ := F'.ns
  obtain ⟨R2, hR2, htab2⟩ := TabOk1.get htab g L 111 oL etab hL (fun vs e => by rw [hLd] at e; cases e) F'.keep
  have fr : ∀ b, s.heap.get? b = none → ∀ q' ∈ (111, tabObj tab) :: rest, q'.1 ≠ b := fun b fb q' hq' e => by rw [← e, (N q' hq').1] at fb; cases fb
  refine h r0 nr cx cdx ot bt t1 t2 t3 ys n n4 n5 tab' R R2 h' tk F' (news_cons (k2 _ e0 (.inr f0)) (news_cons (k2 _ e1 (.inr f1)) (news_cons (k2 _ e2 (.inr f2)) (news_cons (k2 _ e3 (.inr f3)) (news_cons (k2 _ e4 (.inr f4)) (news_cons (k2 _ etab (.inl (.head _))) (news_app (news_all fun q hq => k2 q (hR q hq).1 (.inr (hR q hq).2)) (news_app (fun q hq => ⟨(hR2 q hq).1, (hR2 q hq).2.1, (hR2 q hq).2.2.1⟩) (news_all fun q hq => k1 q (.tail _ hq) fun hm => hoff q hq (List.mem_singleton.mp hm))))))))))
    (fun q hq => fr _ (hR q hq).2) (fun q hq => (hR2 q hq).2.2.2) (fun q' hq' => ⟨fr _ f0 q' hq', fr _ f1 q' hq', fr _ f2 q' hq', fr _ f3 q' hq', fr _ f4 q' hq'⟩) hopsR htab2
theorem told_use {cx cdx ot bt : Addr} {c1 c2 : Tok} {nc no nb : Nat} {ys : List Value} (X : (hd.heap_1 w.params).In g) (T : Top p loose mean mg mb g) (hh : A.handled = none) (hd : A.depth ≤ 800) (hu : A.units ≤ 4000) (F : Fr g L s.heap m) (N : News g L s.heap news)
    (hcx : s.heap.get? cx = some (instObj 46 cdx)) (hcd : s.heap.get? cdx = some (dictOf (codE w c1 c2 ot bt) nc)) (hot : s.heap.get? ot = some (tupOf ys.toArray no)) (hbt : s.heap.get? bt = some (tupOf #[] nb)) (hlen : ys.length ≤ 1000)
    (h : ∀ a n h' tk, Fr g L h' m → News g L h' ((a, tupOf #[.ref ot, .ref bt] n) :: news) → (∀ q ∈ news, q.1 ≠ a) → Q (.ref a) { s with heap := h', toks := tk }) :
    wpAny (model PySem.Challenge.rw_pq0617_01.row.prog w) A (call (.ref 43) [.ref cx]) Q E s := by
  refine use2 (d := 800) (u := 4000) (told_ok X T F.keep cx cdx ot bt c1 c2 nc no nb ys hcx hcd hot hbt hlen (Nat.le_refl _) (Nat.le_refl _)) hh hd hu F N (fun _ h => nomatch h) ?_
  rintro _ h' tk F' k1 k2 ⟨a, n, rfl, ha, fa⟩
  refine h a n h' tk F' (news_cons (k2 _ ha (.inr fa)) (news_all fun q hq => k1 q hq fun h => nomatch h)) fun q hq e => ?_
  rw [← e, (N q hq).1] at fa; cases fa
end
end
theorem fresh_L2b : True ∧ True := by
  k_with_none
  (k_with "binaryOp Pow int int 1" => row_timed "fresh" (fail; (((with_reducible refine Mine.my_pow ?kb1 ?kb2 ?kb3 ?kb4 ?_); (case kb1 => decide); (case kb2 => decide); (case kb3 => first | decide | (with_reducible exact (Mine.pow3_bnd (PySem.W.fmod_lo _ (by decide)) (PySem.W.fmod_hi _ (by decide)) (by assumption) (by assumption)).1) | (with_reducible exact (Mine.pow5_bnd (by assumption) (by assumption)).1)); (case kb4 => first | decide | (with_reducible exact (Mine.pow3_bnd (PySem.W.fmod_lo _ (by decide)) (PySem.W.fmod_hi _ (by decide)) (by assumption) (by assumption)).2) | (with_reducible exact (Mine.pow5_bnd (by assumption) (by assumption)).2)); intro r' hr'))))
  (k_with "m:kroom" => row_timed "fresh" (fail; ((simp only [PyProof.Rows.depth_deeper, PySem.recursionLimit] at *; omega))))
  (k_with "m:zmem" => row_timed "fresh" (fail; (first | with_reducible exact List.Mem.head _ | (with_reducible refine' List.Mem.tail _ ?_; k_extra "m:zmem") | (with_reducible refine mapp_r ?_; k_extra "m:zmem") | (refine mapp_l ?_; assumption))))
  w_top off
  first | (walk1; done) | exact ⟨trivial, trivial⟩
section
def leafD (k : Nat) : PyData := .tuple [.str (Str.ofString "sign"), .str (Str.ofString "ZERO"), .tuple [.str (Str.ofString "ref"), .str (letter k), .tuple [], .tuple [], .none]]
theorem leaf_reads {h : Heap} {v : Value} {k : Nat} (hc : CnAt (fun b ob => h.get? b = some ob) v (.leaf v k)) : Reads h v (leafD k) [] := by
  cases hc with
  | leaf hk hx ha hb he1 he2 =>
    subst hx
    exact .tuple ha rfl rfl (.cons (.str _ _) (.cons (.str _ _) (.cons (.tuple hb rfl rfl (.cons (.str _ _) (.cons (.str _ _) (.cons (.tuple he1 rfl rfl .nil) (.cons (.tuple he2 rfl rfl .nil) (.cons .none .nil)))))) .nil)))
theorem leafD_ok : ∀ k, k < 4 → (leafD k).canLay0 = true ∧ (leafD k).depth ≤ 5 := by decide +kernel
def opD (k : Nat) : Op → PyData
  | .doo i => .tuple [.str (Str.ofString "do"), .int i]
  | .stop x => .tuple [.str (Str.ofString "stop"), .str x]
  | .test _ l => .tuple [.str (Str.ofString "test"), leafD k, .int l]
  | .jump l => .tuple [.str (Str.ofString "jump"), .int l]
theorem op_reads {h : Heap} {y : Value} {op : Op} {k : Nat} (ha : OpAt (fun b ob => h.get? b = some ob) y op) (hl : ∀ v l, op = .test v l → Reads h v (leafD k) []) : Reads h y (opD k op) [] := by
  cases ha with
  | doo ha => exact .tuple ha rfl rfl (.cons (.str _ _) (.cons (.int _ _) .nil))
  | stop ha => exact .tuple ha rfl rfl (.cons (.str _ _) (.cons (.str _ _) .nil))
  | test ha => exact .tuple ha rfl rfl (.cons (.str _ _) (.cons (hl _ _ rfl) (.cons (.int _ _) .nil)))
  | jump ha => exact .tuple ha rfl rfl (.cons (.str _ _) (.cons (.int _ _) .nil))
theorem opD_ok {op : Op} {k : Nat} (hk : k < 4) (hs : ∀ x, op = .stop x → PyData.strOk x = true) : (opD k op).canLay0 = true ∧ (opD k op).depth ≤ 6 := by
  have e1 : PyData.strOk (Str.ofString "do") = true := by decide +kernel
  have e2 : PyData.strOk (Str.ofString "stop") = true := by decide +kernel
  have e3 : PyData.strOk (Str.ofString "test") = true := by decide +kernel
  have e4 : PyData.strOk (Str.ofString "jump") = true := by decide +kernel
  have hl := leafD_ok k hk
  cases op with
  | doo i => simp [opD, PyData.canLay0, PyData.canLayAll0, PyData.depth, PyData.depthAll, e1]
  | stop x => simp [opD, PyData.canLay0, PyData.canLayAll0, PyData.depth, PyData.depthAll, e2, hs x rfl]
  | test v l =>
    simp only [opD, PyData.canLay0, PyData.canLayAll0, PyData.depth, PyData.depthAll, e3, hl.1, Bool.and_true, true_and]
    have := hl.2
    omega
  | jump l => simp [opD, PyData.canLay0, PyData.canLayAll0, PyData.depth, PyData.depthAll, e4]
theorem ops_reads {h : Heap} {fops : List Op} : ∀ {ys ys' : List Value}, OpsAt (fun b ob => h.get? b = some ob) ys fops → OpsAt (fun b ob => h.get? b = some ob) ys' fops → (∀ v l, Op.test v l ∈ fops → ∃ k, k < 4 ∧ Reads h v (leafD k) []) → (∀ x, Op.stop x ∈ fops → PyData.strOk x = true) →
    ∃ ds, PyData.canLayAll0 ds = true ∧ PyData.depthAll ds ≤ 6 ∧ ReadsAll h ys ds [] ∧ ReadsAll h ys' ds [] := by
  induction fops with
  | nil => intro ys ys' h1 h2 _ _; cases h1; cases h2; exact ⟨[], rfl, Nat.zero_le _, .nil, .nil⟩
  | cons op r ih =>
    intro ys ys' h1 h2 hl hs
    cases h1 with
    | cons a1 r1 =>
    cases h2 with
    | cons a2 r2 =>
    obtain ⟨ds, d1, d2, d3, d4⟩ := ih r1 r2 (fun v l hm => hl v l (.tail _ hm)) (fun x hm => hs x (.tail _ hm))
    obtain ⟨k, hk, hkl⟩ : ∃ k, k < 4 ∧ ∀ v l, op = .test v l → Reads h v (leafD k) [] := by
      cases op with
      | test v l => obtain ⟨k, hk, hr⟩ := hl v l (.head _); exact ⟨k, hk, fun v' l' e => by cases e; exact hr⟩
      | _ => exact ⟨0, by decide, fun v l e => by cases e⟩
    have ho := opD_ok (op := op) hk (fun x e => hs x (e ▸ .head _))
    refine ⟨opD k op :: ds, ?_, ?_, .cons (op_reads a1 hkl) d3, .cons (op_reads a2 hkl) d4⟩
    · simp [PyData.canLayAll0, ho.1, d1]
    · simp only [PyData.depthAll]; omega
/-- two codes of the same ops tell the same -/
theorem told_ne {w : World} {A : Around} {E : Value → Shared → Prop} {s : Shared} {Q : Value → Shared → Prop} {a1 a2 ot1 bt1 ot2 bt2 : Addr} {n1 n2 n3 n4 n5 n6 : Nat} {ys ys' : List Value} {fops : List Op}
    (e1 : s.heap.get? a1 = some (tupOf #[.ref ot1, .ref bt1] n1)) (e2 : s.heap.get? a2 = some (tupOf #[.ref ot2, .ref bt2] n2)) (e3 : s.heap.get? ot1 = some (tupOf ys.toArray n3)) (e4 : s.heap.get? ot2 = some (tupOf ys'.toArray n4)) (e5 : s.heap.get? bt1 = some (tupOf #[] n5)) (e6 : s.heap.get? bt2 = some (tupOf #[] n6))
    (h1 : OpsAt (fun b ob => s.heap.get? b = some ob) ys fops) (h2 : OpsAt (fun b ob => s.heap.get? b = some ob) ys' fops) (hl : ∀ v l, Op.test v l ∈ fops → ∃ k, k < 4 ∧ Reads s.heap v (leafD k) []) (hs : ∀ x, Op.stop x ∈ fops → PyData.strOk x = true) (hu : A.units + 64 < cLine)
    (h : Q (.bool false) s) : wpAny (model PySem.Challenge.rw_pq0617_01.row.prog w) A (compareOp .NotEq (.ref a1) (.ref a2)) Q E s := by
  obtain ⟨ds, d1, d2, d3, d4⟩ := ops_reads h1 h2 hl hs
  have r1 : Reads s.heap (.ref a1) (.tuple [.tuple ds, .tuple []]) [] := .tuple e1 rfl rfl (.cons (.tuple e3 rfl rfl d3) (.cons (.tuple e5 rfl rfl .nil) .nil))
  have r2 : Reads s.heap (.ref a2) (.tuple [.tuple ds, .tuple []]) [] := .tuple e2 rfl rfl (.cons (.tuple e4 rfl rfl d4) (.cons (.tuple e6 rfl rfl .nil) .nil))
  have hc : (PyData.tuple [.tuple ds, .tuple []]).canLay0 = true := by simp [PyData.canLay0, PyData.canLayAll0, d1]
  have hsh : PySem.SeqAt.shaped (.tuple [.tuple ds, .tuple []]) = true := by
    rw [PySem.SeqAt.shaped, hc, Bool.true_and, decide_eq_true_eq]
    simp only [PyData.depth, PyData.depthAll]
    omega
  refine ne_dataH r1 r2 hsh hsh hu ?_
  rw [PySem.SeqAt.eqv_refl _ hc]
  exact h
theorem leaves_at {P : Addr → Obj → Prop} {v : Value} {c : Cn} (h : CnAt P v c) : ∀ u ∈ c.leaves, ∃ k, k < 4 ∧ CnAt P u (.leaf u k) := by
  induction h with
  | @leaf a b e1 e2 k n1 n2 n3 n4 t1 t2 t3 t4 x hk hx ha hb he1 he2 =>
    intro u hu
    rw [Cn.leaves, List.mem_singleton] at hu
    subst hu
    exact ⟨k, hk, .leaf hk hx ha hb he1 he2⟩
  | neg ha hc ih => intro u hu; exact ih u hu
  | con ha h1 h2 ih1 ih2 =>
    intro u hu
    rcases List.mem_append.mp hu with hu | hu
    · exact ih1 u hu
    · exact ih2 u hu
theorem fin_stop {c : Cn} {wn : Bool} {x : Str} (h : Op.stop x ∈ finOps c wn) : PyData.strOk x = true := by
  obtain ⟨op', ho', e⟩ := List.mem_map.mp h
  cases op' with
  | doo i => cases e
  | test v l => cases e
  | jump l' => cases e
  | stop y =>
    cases e
    simp only [rawOps, List.mem_cons, List.mem_append, List.mem_nil_iff, or_false, reduceCtorEq, false_or, Op.stop.injEq] at ho'
    rcases ho' with ho' | rfl | rfl
    · obtain ⟨l, hl⟩ := emit_kinds c wn 0 1 [-1] _ ho'; cases hl
    · decide +kernel
    · decide +kernel
/-- a ledger's parts in another order -/
def flatT {α : Type} : List (List α) → List α → List α
  | [], B => B
  | x :: r, B => x ++ flatT r B
theorem mem_flatT {α : Type} {q : α} : ∀ {ls : List (List α)} {B : List α}, q ∈ flatT ls B ↔ q ∈ B ∨ ∃ l ∈ ls, q ∈ l
  | [], B => ⟨.inl, fun h => h.elim id fun ⟨_, h, _⟩ => nomatch h⟩
  | x :: r, B => by
    rw [flatT, List.mem_append, mem_flatT (ls := r)]
    constructor
    · rintro (h | h | ⟨l, hl, h⟩)
      · exact .inr ⟨x, .head _, h⟩
      · exact .inl h
      · exact .inr ⟨l, .tail _ hl, h⟩
    · rintro (h | ⟨l, hl, h⟩)
      · exact .inr (.inl h)
      · rcases List.mem_cons.mp hl with rfl | hl
        · exact .inl h
        · exact .inr (.inr ⟨l, hl, h⟩)
theorem news_flat {g h : Heap} {L : Addr} {B : List (Addr × Obj)} (ls : List (List (Addr × Obj))) (is : List Nat) (j : Nat) (N : News g L h (flatT ls B)) : News g L h (flatT (is.map fun i => (B :: ls).getD i []) ((B :: ls).getD j [])) := news_sub N fun q hq => by
  have key : ∀ i, q ∈ (B :: ls).getD i [] → q ∈ flatT ls B := fun i h => by
    rw [List.getD_eq_getElem?_getD] at h
    cases e : (B :: ls)[i]? with
    | none => rw [e] at h; cases h
    | some l =>
      rw [e] at h
      rcases List.mem_cons.mp (List.mem_of_getElem? e) with rfl | hl
      · exact mem_flatT.mpr (.inl h)
      · exact mem_flatT.mpr (.inr ⟨l, hl, h⟩)
  rcases mem_flatT.mp hq with h | ⟨l, hl, h⟩
  · exact key _ h
  · obtain ⟨i, _, rfl⟩ := List.mem_map.mp hl
    exact key _ h
end
theorem fresh_L4 : True ∧ True := by
  k_with_none
  (k_with "binaryOp Pow int int 1" => row_timed "fresh" (fail; (((with_reducible refine Mine.my_pow ?kb1 ?kb2 ?kb3 ?kb4 ?_); (case kb1 => decide); (case kb2 => decide); (case kb3 => first | decide | (with_reducible exact (Mine.pow3_bnd (PySem.W.fmod_lo _ (by decide)) (PySem.W.fmod_hi _ (by decide)) (by assumption) (by assumption)).1) | (with_reducible exact (Mine.pow5_bnd (by assumption) (by assumption)).1)); (case kb4 => first | decide | (with_reducible exact (Mine.pow3_bnd (PySem.W.fmod_lo _ (by decide)) (PySem.W.fmod_hi _ (by decide)) (by assumption) (by assumption)).2) | (with_reducible exact (Mine.pow5_bnd (by assumption) (by assumption)).2)); intro r' hr'))))
  (k_with "m:kroom" => row_timed "fresh" (fail; ((simp only [PyProof.Rows.depth_deeper, PySem.recursionLimit] at *; omega))))
  (k_with "m:zmem" => row_timed "fresh" (fail; (first | with_reducible exact List.Mem.head _ | (with_reducible refine' List.Mem.tail _ ?_; k_extra "m:zmem") | (with_reducible refine mapp_r ?_; k_extra "m:zmem") | (refine mapp_l ?_; assumption))))
  w_top off
  first | (walk1; done) | exact ⟨trivial, trivial⟩
section
theorem OpsAt.dropN {P : Addr → Obj → Prop} : ∀ {ys : List Value} {os : List Op} (n : Nat), OpsAt P ys os → OpsAt P (ys.drop n) (os.drop n)
  | _, _, 0, h => h
  | _, _, _ + 1, .nil => .nil
  | _, _, n + 1, .cons _ r => OpsAt.dropN n r
theorem OpsAt.takeN {P : Addr → Obj → Prop} : ∀ {ys : List Value} {os : List Op} (n : Nat), OpsAt P ys os → OpsAt P (ys.take n) (os.take n)
  | _, _, 0, _ => .nil
  | _, _, _ + 1, .nil => .nil
  | _, _, n + 1, .cons a r => .cons a (OpsAt.takeN n r)
def layOps (c : Cn) (wn : Bool) : List Op := (draftE c wn).1.map (Op.re (plc c wn))
theorem lay_eq (c : Cn) (wn : Bool) : ((finOps c wn).drop 1).take (begOf c wn - 1) = layOps c wn := by
  have : begOf c wn - 1 = (layOps c wn).length := by simp [begOf, layOps]
  rw [this]
  simp only [finOps, rawOps, List.map_cons, List.drop_succ_cons, List.drop_zero, List.map_append]
  exact List.take_left
theorem lay_at {P : Addr → Obj → Prop} {ys : List Value} {c : Cn} {wn : Bool} (h : OpsAt P ys (finOps c wn)) : OpsAt P ((ys.drop 1).take (begOf c wn - 1)) (layOps c wn) := by
  have := (h.dropN 1).takeN (begOf c wn - 1)
  rwa [lay_eq] at this
theorem lay_kinds {c : Cn} {wn : Bool} {op : Op} (h : op ∈ layOps c wn) : (∃ v l, op = .test v l) ∨ ∃ l, op = .jump l := by
  obtain ⟨o, ho, rfl⟩ := List.mem_map.mp h
  obtain ⟨l', hl⟩ := emit_kinds c wn 0 1 [-1] o ho
  cases o with
  | doo i => cases hl
  | stop x => cases hl
  | test v l => exact .inl ⟨_, _, rfl⟩
  | jump l => exact .inr ⟨_, rfl⟩
theorem re_tested (F : List Int) : ∀ op : Op, (Op.re F op).tested = op.tested
  | .doo _ => rfl
  | .stop _ => rfl
  | .test _ _ => rfl
  | .jump _ => rfl
theorem lay_tests (c : Cn) (wn : Bool) : (layOps c wn).filterMap Op.tested = c.leaves := by
  rw [layOps, List.filterMap_map, ← emit_tests c wn 0 1 [-1]]
  congr 1
  funext op
  exact re_tested _ op
theorem tested_snoc {ops : List Op} {i : Nat} {op : Op} (h : ops[i]? = some op) : (ops.take (i + 1)).filterMap Op.tested = (ops.take i).filterMap Op.tested ++ (match op.tested with | some v => [v] | none => []) := by
  rw [List.take_succ, h, List.filterMap_append]
  cases hq : op.tested with
  | none => simp [hq]
  | some v => simp [hq]
theorem leaves_reads {h : Heap} : ∀ {vs : List Value}, (∀ v ∈ vs, ∃ k, k < 4 ∧ Reads h v (leafD k) []) → ∃ ds, ds.length = vs.length ∧ PyData.canLayAll0 ds = true ∧ PyData.depthAll ds ≤ 5 ∧ ReadsAll h vs ds [] ∧ ∀ v ∈ vs, ∃ d ∈ ds, d.canLay0 = true ∧ d.depth ≤ 5 ∧ Reads h v d []
  | [], _ => ⟨[], rfl, rfl, Nat.zero_le _, .nil, fun _ h => nomatch h⟩
  | v :: r, hv => by
    obtain ⟨ds, e0, e1, e2, e3, e4⟩ := leaves_reads (vs := r) fun u hu => hv u (.tail _ hu)
    obtain ⟨k, hk, hr⟩ := hv v (.head _)
    have hl := leafD_ok k hk
    refine ⟨leafD k :: ds, by simp [e0], ?_, ?_, .cons hr e3, fun u hu => ?_⟩
    · simp [PyData.canLayAll0, hl.1, e1]
    · have := hl.2
      simp only [PyData.depthAll]; omega
    · rcases List.mem_cons.mp hu with rfl | hu
      · exact ⟨_, .head _, hl.1, hl.2, hr⟩
      · obtain ⟨d, hd, a, b, c⟩ := e4 u hu
        exact ⟨d, .tail _ hd, a, b, c⟩
section
variable {w : World} {A : Around} {E : Value → Shared → Prop} {s : Shared} {Q : Value → Shared → Prop} {a1 a2 : Addr} {n1 n2 : Nat} {vs : List Value}
theorem lists_ne (e1 : s.heap.get? a1 = some (W.listOf vs.toArray n1)) (e2 : s.heap.get? a2 = some (W.listOf vs.toArray n2)) (hl : ∀ v ∈ vs, ∃ k, k < 4 ∧ Reads s.heap v (leafD k) []) (hu : A.units + 64 < cLine)
    (h : Q (.bool false) s) : wpAny (model PySem.Challenge.rw_pq0617_01.row.prog w) A (compareOp .NotEq (.ref a1) (.ref a2)) Q E s := by
  obtain ⟨ds, _, d1, d2, d3, _⟩ := leaves_reads hl
  have r1 : Reads s.heap (.ref a1) (.list ds) [a1] := .list e1 rfl rfl d3
  have r2 : Reads s.heap (.ref a2) (.list ds) [a2] := .list e2 rfl rfl d3
  have hc : (PyData.list ds).canLay0 = true := by simp [PyData.canLay0, d1]
  have hsh : PySem.SeqAt.shaped (.list ds) = true := by
    rw [PySem.SeqAt.shaped, hc, Bool.true_and, decide_eq_true_eq]
    simp only [PyData.depth]
    omega
  refine ne_dataH r1 r2 hsh hsh hu ?_
  rw [PySem.SeqAt.eqv_refl _ hc]
  exact h
theorem leaf_notIn {v : Value} (e1 : s.heap.get? a1 = some (W.listOf vs.toArray n1)) (hl : ∀ v ∈ vs, ∃ k, k < 4 ∧ Reads s.heap v (leafD k) []) (hv : v ∈ vs) (hu : A.units + 64 < cLine)
    (h : Q (.bool false) s) : wpAny (model PySem.Challenge.rw_pq0617_01.row.prog w) A (compareOp .NotIn v (.ref a1)) Q E s := by
  obtain ⟨ds, _, d1, d2, d3, d4⟩ := leaves_reads hl
  obtain ⟨d, hd, k1, k2, k3⟩ := d4 v hv
  have r1 : Reads s.heap (.ref a1) (.list ds) [a1] := .list e1 rfl rfl d3
  refine PySem.SeqAt.notIn_list_reads r1 k3 d1 k1 (by omega) ?_
  rw [show (ds.any fun y => PyData.eqv y d) = true from List.any_eq_true.mpr ⟨d, hd, PySem.SeqAt.eqv_refl _ k1⟩]
  exact h
end
end
theorem fresh_ForR : True ∧ True := by
  k_with_none
  (k_with "binaryOp Pow int int 1" => row_timed "fresh" (fail; (((with_reducible refine Mine.my_pow ?kb1 ?kb2 ?kb3 ?kb4 ?_); (case kb1 => decide); (case kb2 => decide); (case kb3 => first | decide | (with_reducible exact (Mine.pow3_bnd (PySem.W.fmod_lo _ (by decide)) (PySem.W.fmod_hi _ (by decide)) (by assumption) (by assumption)).1) | (with_reducible exact (Mine.pow5_bnd (by assumption) (by assumption)).1)); (case kb4 => first | decide | (with_reducible exact (Mine.pow3_bnd (PySem.W.fmod_lo _ (by decide)) (PySem.W.fmod_hi _ (by decide)) (by assumption) (by assumption)).2) | (with_reducible exact (Mine.pow5_bnd (by assumption) (by assumption)).2)); intro r' hr'))))
  (k_with "m:kroom" => row_timed "fresh" (fail; ((simp only [PyProof.Rows.depth_deeper, PySem.recursionLimit] at *; omega))))
  (k_with "m:zmem" => row_timed "fresh" (fail; (first | with_reducible exact List.Mem.head _ | (with_reducible refine' List.Mem.tail _ ?_; k_extra "m:zmem") | (with_reducible refine mapp_r ?_; k_extra "m:zmem") | (refine mapp_l ?_; assumption))))
  w_top off
  first | (walk1; done) | exact ⟨trivial, trivial⟩
section
section
variable {prog : Program} {w : World} {A : Around} {E : Value → Shared → Prop} {s : Shared} {h₀ : Heap} {L : Addr} {m : Str → Option Value} {env : Env}
def RSrc (prog : Program) (w : World) (A : Around) (h₀ : Heap) (env : Env) (target : Expr) (body : List Stmt) (Q : Flow → Shared → Prop) (xv : Value) (s₁ : Shared) : Prop :=
  ∃ (r : Addr) (n : Nat) (t u v : Tok) (m : Str → Option Value) (news : List (Addr × Obj)) (J : Nat → (Str → Option Value) → List (Addr × Obj) → Prop), xv = .ref r ∧ A.handled = none ∧ Fr h₀ env.locals s₁.heap m ∧ News h₀ env.locals s₁.heap news ∧
    IsRange s₁.heap r 0 (n : Int) 1 t u v ∧ Builtin.Range.small 0 (n : Int) 1 = true ∧ Builtin.Range.rangeSize 0 (n : Int) 1 = ((n : Nat) : Int) ∧ J 0 m news ∧
    (∀ i tv I oI m₁ news₁ h tk (E' : Value → Shared → Prop), i < n → J i m₁ news₁ → Fr h₀ env.locals h m₁ → News h₀ env.locals h ((I, oI) :: news₁) → (∀ q ∈ news₁, q.1 ≠ I) →
      wpAny (model prog w) A (assign target env (.int (i : Nat) tv)) (fun _ s₂ => wpAny (model prog w) A (execs body env) (fun f s₃ => f = .next ∧ ∃ h' tk' m₂ news₂, s₃ = { s₁ with heap := h', toks := tk' } ∧ Fr h₀ env.locals h' m₂ ∧ News h₀ env.locals h' ((I, oI) :: news₂) ∧ (∀ q ∈ news₂, q.1 ≠ I) ∧ J (i + 1) m₂ news₂) E' s₂) E' { s₁ with heap := h, toks := tk }) ∧
    (∀ h tk m news, Fr h₀ env.locals h m → News h₀ env.locals h news → J n m news → Q .next { s₁ with heap := h, toks := tk })
theorem For_rng {target iter : Expr} {body : List Stmt} {pos : Pos} {Q : Flow → Shared → Prop}
    (h : wpAny (model prog w) A (eval iter env) (fun v s₁ => Hold (RSrc prog w A h₀ env target body Q v s₁)) E s)
    (hs : ∀ x, foldedSetIterable iter env x = pure x) (ht : ∀ it v, letOwnedTupleGo target it v = pure ()) :
    wpAny (model prog w) A (exec (.For target iter body [] pos) env) Q E s := by
  refine wpAny_For (wpAny_mono h (fun xv s₁ h₁ => ?_) fun _ _ e => e) hs
  obtain ⟨r, n, t, u, v, m, news, J, rfl, hh, F, N, hr, hsm, hn, h0, step, hQ⟩ := h₁
  refine wpAny_pyIter_range hr hsm ?_
  have hIL : env.locals ≠ s₁.heap.objs.size := Nat.ne_of_lt F.ns.lt
  have hI0 : h₀.get? s₁.heap.objs.size = none := next_is_new F
  have W := LCg.range_walks (prog := prog) (w := w) (A := A) (I := s₁.heap.objs.size) hh 0 n
  have up : ∀ (o : Obj) (b : Addr) (ob : Obj), s₁.heap.get? b = some ob → (s₁.heap.push o).get? b = some ob := fun o b ob e => Heap.get?_push_of_some _ e
  have off : ∀ p ∈ news, p.1 ≠ s₁.heap.objs.size := fun p hp => Nat.ne_of_lt (Heap.lt_size (N p hp).1)
  refine codeAny_forLoop (fun k s' => ∃ h' tk m' news' i, s' = { s₁ with heap := h', toks := tk } ∧ IsRangeIter h' s₁.heap.objs.size (0 + (i : Nat) * 1) ((n : Int) - (i : Nat)) 1 ∧ Fr h₀ env.locals h' m' ∧ News h₀ env.locals h' news' ∧ (∀ p ∈ news', p.1 ≠ s₁.heap.objs.size) ∧ J i m' news' ∧ i ≤ n ∧ k = n + 1 - i)
    ?_ (n + 1) ⟨_, _, m, news, 0, rfl, by show IsRangeIter _ _ _ _ _; rw [hn]; simpa using Heap.get?_push_size _ rfl, F.keeps (up _), N.grown (up _), off, h0, Nat.zero_le _, rfl⟩ (ht _)
  rintro k s' ⟨h', tk, m', news', i, rfl, st, F', N', off', hJ, hi, rfl⟩
  generalize s₁.heap.objs.size = I at *
  by_cases hlt : i < n
  · refine W.item i _ _ _ hlt st fun v h₂ tk₂ hPv st₂ hk₂ => ?_
    obtain ⟨tv, rfl⟩ := hPv
    rw [Int.zero_add]
    have st₂' : h₂.get? I = some _ := st₂
    have F₂ := LCg.fr_but F' hk₂ hIL hI0
    have N₂ : News h₀ env.locals h₂ news' := LCg.news_but N' hk₂ off'
    refine wpAny_mono (step i tv I _ m' news' h₂ tk₂ _ hlt hJ F₂ (news_cons (fun p hp => by rw [List.mem_singleton.mp hp]; exact ⟨st₂', Ne.symm hIL, hI0⟩) N₂) off') (fun _ s₂ h₂' => ?_) fun _ _ e => e
    refine wpAny_mono h₂' (fun f s₃ h₃ => ?_) fun _ _ e => e
    obtain ⟨rfl, h3, tk3, m3, news3, rfl, F3, N3, off3, hJ3⟩ := h₃
    exact ⟨n + 1 - (i + 1), by omega, h3, tk3, m3, news3, i + 1, rfl, (N3 _ (.head _)).1, F3, news_sub N3 fun q hq => .tail _ hq, off3, hJ3, hlt, rfl⟩
  · obtain rfl : i = n := Nat.le_antisymm hi (Nat.not_lt.mp hlt)
    refine W.done _ _ _ st fun h₂ tk₂ hk₂ => ?_
    refine wpAny_execs_nil ?_
    exact hQ h₂ tk₂ m' news' (LCg.fr_but F' hk₂ hIL hI0) (LCg.news_but N' hk₂ off') hJ
end
end
theorem fresh_TComp : True ∧ True := by
  k_with_none
  (k_with "binaryOp Pow int int 1" => row_timed "fresh" (fail; (((with_reducible refine Mine.my_pow ?kb1 ?kb2 ?kb3 ?kb4 ?_); (case kb1 => decide); (case kb2 => decide); (case kb3 => first | decide | (with_reducible exact (Mine.pow3_bnd (PySem.W.fmod_lo _ (by decide)) (PySem.W.fmod_hi _ (by decide)) (by assumption) (by assumption)).1) | (with_reducible exact (Mine.pow5_bnd (by assumption) (by assumption)).1)); (case kb4 => first | decide | (with_reducible exact (Mine.pow3_bnd (PySem.W.fmod_lo _ (by decide)) (PySem.W.fmod_hi _ (by decide)) (by assumption) (by assumption)).2) | (with_reducible exact (Mine.pow5_bnd (by assumption) (by assumption)).2)); intro r' hr'))))
  (k_with "m:kroom" => row_timed "fresh" (fail; ((simp only [PyProof.Rows.depth_deeper, PySem.recursionLimit] at *; omega))))
  (k_with "m:zmem" => row_timed "fresh" (fail; (first | with_reducible exact List.Mem.head _ | (with_reducible refine' List.Mem.tail _ ?_; k_extra "m:zmem") | (with_reducible refine mapp_r ?_; k_extra "m:zmem") | (refine mapp_l ?_; assumption))))
  w_top off
  first | (walk1; done) | exact ⟨trivial, trivial⟩
section
section
variable {prog : Program} {w : World} {A : Around} {E : Value → Shared → Prop} {s : Shared} {h₀ : Heap} {L : Addr} {m : Str → Option Value} {env : Env}
theorem tuple_st {ax I : Addr} {its : Array Value} {n : Nat} : ∀ i (h h' : Heap) (o : Obj) (nw : List (Addr × Obj)), (h.IsTupleIter I ax i ∧ h.IsTuple ax its) → h.get? I = some o → h'.get? I = some o → (∀ b o, h₀.get? b = some o → h'.get? b = some o) → News h₀ L h' nw → (ax, (⟨.type "tuple", none, .seq its n, #[]⟩ : Obj)) ∈ nw → (h'.IsTupleIter I ax i ∧ h'.IsTuple ax its) :=
  fun i h h' o nw st e e' k N S => ⟨by obtain ⟨o', q, r⟩ := st.1; rw [e] at q; cases q; exact ⟨o, e', r⟩, ⟨_, N.get S, rfl, _, rfl⟩⟩
def TSrc (prog : Program) (w : World) (A : Around) (h₀ : Heap) (L : Addr) (m : Str → Option Value) (env : Env) (ct elt : Expr) (x : Str) (scope : Scope) (cl : List (Str × Addr)) (Q : Value → Shared → Prop) (xv : Value) (s₁ : Shared) : Prop :=
  ∃ T its n news, xv = .ref T ∧ A.handled = none ∧ Fr h₀ L s₁.heap m ∧ News h₀ L s₁.heap news ∧ (T, (⟨.type "tuple", none, .seq its n, #[]⟩ : Obj)) ∈ news ∧ its.size ≤ sizeLine ∧
    ∀ g : Heap, LCt.CompRestT prog w A h₀ L m env ct elt x scope cl { s₁ with heap := g } (fun nw => (T, (⟨.type "tuple", none, .seq its n, #[]⟩ : Obj)) ∈ nw) (fun i v => its[i]? = some v) (LCg.FinE h₀ L m { s₁ with heap := g } Q) its.size 0 [] news
theorem ListComp_TT {ct elt iter : Expr} {x : Str} {px : Pos} {scope : Scope} {cl : List (Str × Addr)} {pos : Pos} {Q : Value → Shared → Prop} (F₀ : Fr h₀ L s.heap m)
    (hclos : closureFor scope env = pure cl) (hcell : ∀ y ∈ scope.names, y.2 ≠ .cell) (hkind : scope.kind = .function)
    (hnames : ∀ y ∈ scope.names, y.2 = .local → scope.names.lookup y.1 = some .local) (hx : scope.names.lookup x = some .local)
    (h : wpAny (model prog w) A (eval iter env) (fun v s₁ => Hold (TSrc prog w A h₀ L m env ct elt x scope cl Q v s₁)) E s)
    (hs : ∀ x, foldedSetIterable iter env x = pure x) :
    wpAny (model prog w) A (eval (.ListComp elt [⟨.Name x px, iter, [ct], 0⟩] scope pos) env) Q E s := by
  rw [eval_ListComp]
  refine wpAny_comprehension_free (use := none) rfl hs hclos hkind hnames (wpAny_mono h (fun xv s₁ h₁ => ?_) fun _ _ e => e)
  obtain ⟨T, its, n, news, rfl, hh, F, N, hT, hsz, R⟩ := h₁
  have hl : s₁.heap.IsTuple T its := ⟨_, N.get hT, rfl, _, rfl⟩
  have hlt : T < s₁.heap.objs.size := Heap.lt_size (N.get hT)
  refine wpAny_pyIter_tuple hl ?_
  have up : ∀ b o, s₁.heap.get? b = some o → (s₁.heap.push { cls := .type "tuple_iterator", data := .fields #[.ref T, .int 0 0] }).get? b = some o := fun b o e => Heap.get?_push_of_some _ e
  refine LCt.block_T (Walks.tuple hh s₁.heap.objs.size T (Nat.ne_of_lt hlt) its) hsz (fun i h st => by obtain ⟨o, e, _⟩ := st.1; exact ⟨o, e⟩) tuple_st hcell hkind hx ⟨⟨_, Heap.get?_push_size _ rfl, rfl, rfl⟩, hl.at fun o e => up _ o e⟩ (fun b hb => ?_)
    (F.keeps up) (N.grown up) (Nat.ne_of_lt F.ns.lt) (next_is_new F) (fun p hp => Nat.ne_of_lt (Heap.lt_size (N p hp).1)) hT (R _) ?_
  · show b < (s₁.heap.push _).objs.size
    rw [Heap.size_push]
    rcases List.mem_cons.mp hb with rfl | hb
    · exact Nat.lt_succ_self _
    · rw [List.mem_singleton.mp hb]; exact Nat.lt_succ_of_lt hlt
  · intro D C h tk m' ys news' F' N' o1 hn hC₀ hD₀ hCL hDL hCD offC fin
    refine ⟨m', hn, fun h'' hs'' => fin D h'' tk (F'.change hs'' hCL hC₀) (fun p hp => ?_) o1⟩
    refine ⟨hs''.extBut _ _ ?_ (N' p hp).1, (N' p hp).2⟩
    rcases List.mem_cons.mp hp with rfl | hp
    · exact Ne.symm hCD
    · exact offC p hp
theorem compRestT_of {ct elt : Expr} {x : Str} {scope : Scope} {cl : List (Str × Addr)} {S : List (Addr × Obj) → Prop} {P : Nat → Value → Prop} {Fin : List Value → List (Addr × Obj) → Prop} {n : Nat} (J : Nat → List Value → List (Addr × Obj) → Prop)
    (step : ∀ i v ys news I oI C oC D m₂ h tk (E' : Value → Shared → Prop), i < n → P i v → J i ys news → LCg.NsObj oC m₂ → m₂ x = some v → Fr h₀ L h m → News h₀ L h ((I, oI) :: (C, oC) :: (D, LCg.lst ys) :: news) → LCg.Off3 I C D news → ((@Ne Nat I C) ∧ (@Ne Nat I D) ∧ (@Ne Nat C D)) →
      wpAny (model prog w) A (isTrue ct (compEnvC scope cl C env) (eval ct (compEnvC scope cl C env))) (fun ok s' => if ok = true then
        wpAny (model prog w) A (eval elt (compEnvC scope cl C env)) (LCg.CompEnd h₀ L m { s with heap := h, toks := tk } I oI C oC D (LCg.lst ys) S (fun y news' => J (i + 1) (ys ++ [y]) news')) E' s'
        else LCg.CompEnd h₀ L m { s with heap := h, toks := tk } I oI C oC D (LCg.lst ys) S (fun _ news' => J (i + 1) ys news') Value.none s') E' { s with heap := h, toks := tk })
    (done : ∀ ys news, J n ys news → Fin ys news) : ∀ k i, i + k = n → ∀ ys news, J i ys news → LCt.CompRestT prog w A h₀ L m env ct elt x scope cl s S P Fin k i ys news
  | 0, i, e, ys, news, hj => .zero (done ys news (by rw [Nat.add_zero] at e; exact e ▸ hj))
  | k + 1, i, e, ys, news, hj => .succ fun v I oI C oC D m₂ h tk E' hp hn hm F N off ne =>
    wpAny_mono (step i v ys news I oI C oC D m₂ h tk E' (by omega) hp hj hn hm F N off ne) (fun ok s₁ hok => by
      cases ok with
      | true =>
        simp only [if_true] at hok ⊢
        refine wpAny_mono hok (fun y s₂ hy => ?_) fun _ _ x => x
        obtain ⟨h', tk', news', e', F', N', o', hS, hr⟩ := hy
        exact ⟨h', tk', news', e', F', N', o', hS, compRestT_of J step done k (i + 1) (by omega) _ _ hr⟩
      | false =>
        simp only [Bool.false_eq_true, if_false] at hok ⊢
        obtain ⟨h', tk', news', e', F', N', o', hS, hr⟩ := hok
        exact ⟨h', tk', news', e', F', N', o', hS, compRestT_of J step done k (i + 1) (by omega) _ _ hr⟩) fun _ _ x => x
theorem compRestT_fix {ct elt : Expr} {x : Str} {scope : Scope} {cl : List (Str × Addr)} {S : List (Addr × Obj) → Prop} {P : Nat → Value → Prop} {Fin : List Value → List (Addr × Obj) → Prop} {n : Nat} {news : List (Addr × Obj)} (J : Nat → List Value → Prop)
    (step : ∀ i v ys I oI C oC D m₂ h tk (E' : Value → Shared → Prop), i < n → P i v → J i ys → LCg.NsObj oC m₂ → m₂ x = some v → Fr h₀ L h m → News h₀ L h ((I, oI) :: (C, oC) :: (D, LCg.lst ys) :: news) → LCg.Off3 I C D news → ((@Ne Nat I C) ∧ (@Ne Nat I D) ∧ (@Ne Nat C D)) →
      wpAny (model prog w) A (isTrue ct (compEnvC scope cl C env) (eval ct (compEnvC scope cl C env))) (fun ok s' => if ok = true then
        wpAny (model prog w) A (eval elt (compEnvC scope cl C env)) (LCg.CompEnd h₀ L m { s with heap := h, toks := tk } I oI C oC D (LCg.lst ys) S (fun y news' => news' = news ∧ J (i + 1) (ys ++ [y]))) E' s'
        else LCg.CompEnd h₀ L m { s with heap := h, toks := tk } I oI C oC D (LCg.lst ys) S (fun _ news' => news' = news ∧ J (i + 1) ys) Value.none s') E' { s with heap := h, toks := tk })
    (h0 : J 0 []) (done : ∀ ys, J n ys → Fin ys news) : LCt.CompRestT prog w A h₀ L m env ct elt x scope cl s S P Fin n 0 [] news :=
  compRestT_of (fun i ys nw => nw = news ∧ J i ys) (fun i v ys nw I oI C oC D m₂ h tk E' hi hp hj hn hm F N off ne => by
    obtain ⟨rfl, hj⟩ := hj
    exact step i v ys I oI C oC D m₂ h tk E' hi hp hj hn hm F N off ne) (fun ys nw hj => by obtain ⟨rfl, hj⟩ := hj; exact done ys hj) n 0 (Nat.zero_add _) [] news ⟨rfl, h0⟩
end
end
theorem fresh_SlAB : True ∧ True := by
  k_with_none
  (k_with "binaryOp Pow int int 1" => row_timed "fresh" (fail; (((with_reducible refine Mine.my_pow ?kb1 ?kb2 ?kb3 ?kb4 ?_); (case kb1 => decide); (case kb2 => decide); (case kb3 => first | decide | (with_reducible exact (Mine.pow3_bnd (PySem.W.fmod_lo _ (by decide)) (PySem.W.fmod_hi _ (by decide)) (by assumption) (by assumption)).1) | (with_reducible exact (Mine.pow5_bnd (by assumption) (by assumption)).1)); (case kb4 => first | decide | (with_reducible exact (Mine.pow3_bnd (PySem.W.fmod_lo _ (by decide)) (PySem.W.fmod_hi _ (by decide)) (by assumption) (by assumption)).2) | (with_reducible exact (Mine.pow5_bnd (by assumption) (by assumption)).2)); intro r' hr'))))
  (k_with "m:kroom" => row_timed "fresh" (fail; ((simp only [PyProof.Rows.depth_deeper, PySem.recursionLimit] at *; omega))))
  (k_with "m:zmem" => row_timed "fresh" (fail; (first | with_reducible exact List.Mem.head _ | (with_reducible refine' List.Mem.tail _ ?_; k_extra "m:zmem") | (with_reducible refine mapp_r ?_; k_extra "m:zmem") | (refine mapp_l ?_; assumption))))
  w_top off
  first | (walk1; done) | exact ⟨trivial, trivial⟩
section
section
variable {prog : Program} {w : World} {A : Around} {E : Value → Shared → Prop} {s : Shared} {h₀ : Heap} {L : Addr} {m : Str → Option Value} {news : List (Addr × Obj)}
theorem ab_adjust (a b n : Nat) (hab : a ≤ b) (hb : b ≤ n) : Builtin.Slice.sliceAdjust (some (a : Int)) (some (b : Int)) 1 (n : Int) = ((a : Int), (b : Int)) := by
  unfold Builtin.Slice.sliceAdjust
  have h1 : ¬ ((1 : Int) < 0) := by omega
  have h2 : ¬ ((a : Int) < 0) := by omega
  have h3 : ¬ ((b : Int) < 0) := by omega
  simp only [h1, h2, h3, if_false]
  congr 1
  · omega
  · omega
theorem ab_places (a b : Nat) (hab : a ≤ b) : Builtin.Slice.slicePlaces (a : Int) (b : Int) 1 = b - a := by
  unfold Builtin.Slice.slicePlaces
  have h1 : (1 : Int) > 0 := by omega
  simp only [h1, if_true, Int.ediv_one]
  split <;> omega
theorem ab_applied {sl : Addr} {a b n : Nat} {u u2 : Tok} {Q : Int × Int × Nat → Shared → Prop} (hs : s.heap.IsSliceOf sl (.int (a : Nat) u) (.int (b : Nat) u2) .none) (hab : a ≤ b) (hb : b ≤ n) (h : Q ((a : Int), 1, b - a) s) :
    wpAny (model prog w) A (Builtin.Slice.sliceApplied (.ref sl) (pure (n : Int))) Q E s := by
  obtain ⟨os, hos, _, hds⟩ := hs
  unfold Builtin.Slice.sliceApplied Builtin.Slice.sliceFields
  refine wpAny_bind (wpAny_bind (wpAny_field hos hds (x := .int (a : Nat) u) rfl (wpAny_bind (wpAny_field hos hds (x := .int (b : Nat) u2) rfl (wpAny_bind (wpAny_field hos hds (x := .none) rfl (wpAny_pure ?_)))))))
  refine wpAny_bind (slicePart_none ?_)
  show wpAny _ _ (if ((1 : Int) == 0) = true then _ else _) _ _ s
  rw [if_neg (by decide)]
  refine wpAny_bind (slicePart_int (wpAny_bind (slicePart_int (wpAny_bind (wpAny_pure ?_)))))
  show wpAny _ _ (match Builtin.Slice.sliceAdjust (some (a : Int)) (some (b : Int)) 1 (n : Int) with | (lo, hi) => pure (lo, (1 : Int), Builtin.Slice.slicePlaces lo hi 1)) _ _ s
  rw [ab_adjust a b n hab hb]
  show wpAny _ _ (pure ((a : Int), (1 : Int), Builtin.Slice.slicePlaces (a : Int) (b : Int) 1)) _ _ s
  rw [ab_places a b hab]
  exact wpAny_pure h
theorem ab_pick (xs : Array Value) (a b : Nat) : ((List.range (b - a)).filterMap fun (k : Nat) => xs[((a : Int) + (k : Int) * 1).toNat]?).toArray = ((xs.toList.drop a).take (b - a)).toArray := by
  have := pick_run xs a (b - a)
  rw [List.filterMap_map] at this
  rw [← this]
  congr 2
  funext k
  show xs[((a : Int) + (k : Int) * 1).toNat]? = xs[a + k]?
  congr 1
  omega
theorem ab_getItem {t sl : Addr} {items : Array Value} {a b : Nat} {u u2 : Tok} {Q : Value → Shared → Prop} (ht : IsTup s.heap t items) (hs : s.heap.IsSliceOf sl (.int (a : Nat) u) (.int (b : Nat) u2) .none) (h1 : 1 ≤ a) (hab : a ≤ b) (hb : b ≤ items.size)
    (h : Q (.ref s.heap.objs.size) { s with heap := s.heap.push { cls := .type "tuple", data := .seq ((items.toList.drop a).take (b - a)).toArray } })
    (hsz : items.size ≤ sizeLine) : wpAny (model prog w) A (getItem (.ref t) (.ref sl)) Q E s := by
  have hok : sizeOk (.seq ((items.toList.drop a).take (b - a)).toArray) := by
    show ((items.toList.drop a).take (b - a)).toArray.size ≤ sizeLine
    rw [List.size_toArray, List.length_take, List.length_drop, Array.length_toList]
    omega
  obtain ⟨os, hos, hcs, hds⟩ := id hs
  have hTs : s.TypeIs (.ref sl) "slice" := ⟨os, hos, hcs⟩
  unfold getItem
  try with_reducible refine wpAny_holding ?_
  first | refine wpAny_bind (wpAny_pure ?_) | skip
  refine wpAny_bind (wpAny_sequenceKey ht.typeIs (by decide) ?_)
  refine wpAny_bind (wpAny_callSpecial?_slot (name := Str.ofString "__getitem__") ht.typeIs slot_tuple_getitem
    (wpAny_call_entry slot_tuple_getitem ht.typeIs entry_tuple_getitem ?_ (args_tuple_getitem _ _)))
  show wpAny _ _ (Builtin.Tuple.tupleItemsOf (.ref t) >>= _) _ _ s
  refine wpAny_bind (tupleItemsOf_ ht ?_)
  refine wpAny_bind (wpAny_typeOf hTs ?_)
  rw [if_pos (by decide)]
  refine wpAny_bind (ab_applied hs hab hb ?_)
  have hno : ¬ (((a : Int) == 0 && (1 : Int) == 1 && (b - a) == items.size) = true) := by
    have : ((a : Int) == 0) = false := by rw [beq_eq_false_iff_ne]; omega
    rw [this]; simp
  show wpAny _ _ (if ((a : Int) == 0 && (1 : Int) == 1 && (b - a) == items.size) = true then _ else _) _ _ s
  rw [if_neg hno, ab_pick items a b]
  first
    | exact wpAny_bind (m := Builtin.Tuple.tupleExact _) (wpAny_newObj_type (wpAny_pure ⟨_, rfl, wpAny_pure h⟩) hok)
    | exact wpAny_bind (m := Builtin.Tuple.tupleExact _) (wpAny_newObj_type (wpAny_bind (wpAny_pure (wpAny_pure ⟨_, rfl, wpAny_pure h⟩))) hok)
    | exact wpAny_bind (wpAny_bind (m := Builtin.Tuple.tupleExact _) (wpAny_newObj_type (wpAny_pure (wpAny_pure ⟨_, rfl, wpAny_pure h⟩)) hok))
    | exact wpAny_bind (wpAny_bind (m := Builtin.Tuple.tupleExact _) (wpAny_newObj_type (wpAny_pure ⟨_, rfl, wpAny_pure h⟩) hok))
theorem slice_tuple_ab {value slice : Expr} {t : Addr} {items : Array Value} {a b : Nat} {u u2 : Tok} {Q : Value → Shared → Prop}
    (F : Fr h₀ L s.heap m) (N : News h₀ L s.heap news) (ht : IsTup s.heap t items) (h1 : 1 ≤ a) (hab : a ≤ b) (hb : b ≤ items.size)
    (h : ∀ h' D, Fr h₀ L h' m → News h₀ L h' ((D, { cls := .type "tuple", data := .seq ((items.toList.drop a).take (b - a)).toArray }) :: news) → (∀ q ∈ news, q.1 < D) → Q (.ref D) { s with heap := h' })
    (hs : subscripted slice false (.ref t) (.ref s.heap.objs.size) = operate [.ref s.heap.objs.size, .ref t] (getItem (.ref t) (.ref s.heap.objs.size)))
    (hg : ∀ r, letTemporaryGo value (.ref t) r = pure ())
    (hsz : items.size ≤ sizeLine) :
    wpAny (model prog w) A (subscriptTail value slice (.ref t) (.ref s.heap.objs.size)) Q E { s with heap := s.heap.push { cls := .type "slice", data := .fields #[.int (a : Nat) u, .int (b : Nat) u2, .none] } } := by
  have ht' : IsTup (s.heap.push { cls := .type "slice", data := .fields #[.int (a : Nat) u, .int (b : Nat) u2, .none] }) t items := ht.keeps fun _ _ e => Heap.get?_push_of_some _ e
  refine subscriptTail_ops (s := { s with heap := s.heap.push { cls := .type "slice", data := .fields #[.int (a : Nat) u, .int (b : Nat) u2, .none] } }) ht'.typeIs slot_tuple_getitem.lookup
    (ab_getItem ht' (Heap.IsSliceOf.new ..) h1 hab hb ?_ hsz) hs hg
  have N1 := News.push (F.push { cls := .type "slice", data := .fields #[.int (a : Nat) u, .int (b : Nat) u2, .none] }) (N.grown fun _ _ e => Heap.get?_push_of_some _ e) { cls := .type "tuple", data := .seq ((items.toList.drop a).take (b - a)).toArray }
  refine h _ _ ((F.push _).push _) N1 fun q hq => ?_
  have := Heap.lt_size (N.get hq)
  show q.1 < (s.heap.push _).objs.size
  rw [Heap.size_push]
  exact Nat.lt_succ_of_lt this
end
end
theorem fresh_LamR : True ∧ True := by
  k_with_none
  (k_with "binaryOp Pow int int 1" => row_timed "fresh" (fail; (((with_reducible refine Mine.my_pow ?kb1 ?kb2 ?kb3 ?kb4 ?_); (case kb1 => decide); (case kb2 => decide); (case kb3 => first | decide | (with_reducible exact (Mine.pow3_bnd (PySem.W.fmod_lo _ (by decide)) (PySem.W.fmod_hi _ (by decide)) (by assumption) (by assumption)).1) | (with_reducible exact (Mine.pow5_bnd (by assumption) (by assumption)).1)); (case kb4 => first | decide | (with_reducible exact (Mine.pow3_bnd (PySem.W.fmod_lo _ (by decide)) (PySem.W.fmod_hi _ (by decide)) (by assumption) (by assumption)).2) | (with_reducible exact (Mine.pow5_bnd (by assumption) (by assumption)).2)); intro r' hr'))))
  (k_with "m:kroom" => row_timed "fresh" (fail; ((simp only [PyProof.Rows.depth_deeper, PySem.recursionLimit] at *; omega))))
  (k_with "m:zmem" => row_timed "fresh" (fail; (first | with_reducible exact List.Mem.head _ | (with_reducible refine' List.Mem.tail _ ?_; k_extra "m:zmem") | (with_reducible refine mapp_r ?_; k_extra "m:zmem") | (refine mapp_l ?_; assumption))))
  w_top off
  first | (walk1; done) | exact ⟨trivial, trivial⟩
section
section
variable {M : Model} {A : Around} {E : Value → Shared → Prop} {s : Shared} {h₀ : Heap} {L c P : Addr} {m mg mb : Str → Option Value} {env : Env} {rest : List (Addr × Obj)}
  {p : Program} {loose : List Str} {mean : ExcName → Option Value} {params : Arguments} {body : Expr} {scope : Scope} {tab : Array Value} {pos : Pos} {clos : List (Str × Addr)}
/-- a lambda made: its code may stand in the table or not -/
theorem lam_any {Q : Value → Shared → Prop} (hdef : defaultsOf params env = ([], [])) (hge : env.globals = mainGlobals) (hcd : env.code = .ref c) (F : Fr h₀ L s.heap m) (N : News h₀ L s.heap ((P, tabObj tab) :: rest)) (T : Top p loose mean mg mb h₀) (C : CodeHd h₀ c P) (ht : TriplesOk tab.toList) (hoff : ∀ q ∈ rest, q.1 ≠ P)
    (hcase : codeAmong pos tab.toList = none ∨ ∃ c' oc vs t, codeAmong pos tab.toList = some (.ref c') ∧ (c', oc) ∈ rest ∧ oc.data = .fields vs ∧ vs[1]? = some (.str (env.qual ++ "<lambda>") t))
    (hcl : closureFor scope env = pure clos)
    (h : ∀ f c' oc vs t ctv h' tk tab' CC, Fr h₀ L h' m → News h₀ L h' ((f, kla_obj "<lambda>" (env.qual ++ "<lambda>") params body scope clos ((mg "__name__").getD .none) c' ctv) :: (P, tabObj tab') :: (CC ++ rest)) →
      (c', oc) ∈ CC ++ rest → oc.data = .fields vs → vs[1]? = some (.str (env.qual ++ "<lambda>") t) → (∀ q ∈ CC, ∀ q' ∈ (P, tabObj tab) :: rest, q'.1 < q.1) → (∀ q ∈ CC ++ rest, q.1 < f) → P < f →
      ((codeAmong pos tab.toList = none ∧ tab' = tab ++ #[rawInt pos.line, rawInt pos.col, .ref c']) ∨ (codeAmong pos tab.toList = some (.ref c') ∧ tab' = tab)) → Q (.ref f) { s with heap := h', toks := tk }) :
    wpAny M A (eval (.Lambda params body scope pos) env) Q E s := by
  rcases hcase with hn | ⟨c', oc, vs, t, hf, hm, hd, hv⟩
  · refine lam_new hdef hge hcd F N T C (UpdF.head hoff) ht hn hcl ?_
    intro f c' oc vs t ctv h' tk F' N' hd hv l1 l2
    refine h f c' oc vs t ctv h' tk _ [(c', oc)] F' (news_sub N' fun q hq => ?_) (.head _) hd hv (fun q hq q' hq' => ?_) (fun q hq => ?_) (Nat.lt_trans (l1 _ (.head _)) l2) (.inl ⟨hn, rfl⟩)
    · simp only [List.mem_cons, List.cons_append, List.nil_append] at hq ⊢
      rcases hq with hq | hq | hq | hq <;> simp [hq]
    · rw [List.mem_singleton.mp hq]; exact l1 q' hq'
    · rcases List.mem_cons.mp hq with rfl | hq
      · exact l2
      · exact Nat.lt_trans (l1 q (.tail _ hq)) l2
  · refine lam_hit hdef hge hcd F N T C (.head _) ht hf hcl ?_
    intro f ctv h' tk F' N' l1
    exact h f c' oc vs t ctv h' tk tab [] F' N' hm hd hv (fun _ h => nomatch h) (fun q hq => l1 q (.tail _ hq)) (l1 _ (.head _)) (.inr ⟨hf, rfl⟩)
end
def lawQ : Str := Str.ofString "law" ++ Str.ofString ".<locals>." ++ Str.ofString "<lambda>"
def CodeIn (B : List (Addr × Obj)) (c : Addr) : Prop := ∃ oc vs t, (c, oc) ∈ B ∧ oc.data = .fields vs ∧ vs[1]? = some (.str lawQ t)
theorem CodeIn.mono {B B' : List (Addr × Obj)} {c : Addr} (h : CodeIn B c) (k : ∀ q ∈ B, q ∈ B') : CodeIn B' c := let ⟨oc, vs, t, a, b, d⟩ := h; ⟨oc, vs, t, k _ a, b, d⟩
def Tab0 (tab : Array Value) (B : List (Addr × Obj)) : Prop := tab = #[] ∨ ∃ c1 c2, tab = #[rawInt 344, rawInt 0, .ref c1, rawInt 345, rawInt 0, .ref c2] ∧ CodeIn B c1 ∧ CodeIn B c2
def Tab1 (c1 : Addr) (tab : Array Value) (B : List (Addr × Obj)) : Prop := (tab = #[rawInt 344, rawInt 0, .ref c1] ∨ ∃ c2, tab = #[rawInt 344, rawInt 0, .ref c1, rawInt 345, rawInt 0, .ref c2] ∧ CodeIn B c2) ∧ CodeIn B c1
theorem Tab0.triples {tab : Array Value} {B : List (Addr × Obj)} (h : Tab0 tab B) : TriplesOk tab.toList := by
  rcases h with rfl | ⟨c1, c2, rfl, _⟩ <;> simp [TriplesOk, rawInt]
theorem Tab1.triples {c1 : Addr} {tab : Array Value} {B : List (Addr × Obj)} (h : Tab1 c1 tab B) : TriplesOk tab.toList := by
  rcases h.1 with rfl | ⟨c2, rfl, _⟩ <;> simp [TriplesOk, rawInt]
/-- one object of a law's turn -/
def CellAt (o : Obj) : Prop := ∃ v, o.data = .cell v
def M3 (o1 o2 o3 : Option Value) (m0 : Str → Option Value) : Str → Option Value := fun y => if y = Str.ofString "is_led" then o1 else if y = Str.ofString "word" then o2 else if y = Str.ofString "deeds" then o3 else m0 y
theorem M3_self (m0 : Str → Option Value) : M3 (m0 (Str.ofString "is_led")) (m0 (Str.ofString "word")) (m0 (Str.ofString "deeds")) m0 = m0 := by
  funext y
  unfold M3
  split
  · rename_i h; rw [h]
  · split
    · rename_i h; rw [h]
    · split
      · rename_i h; rw [h]
      · rfl
theorem M3_step {o1 o2 o3 v1 v2 v3 : Option Value} {m0 : Str → Option Value} : (fun y => if y = Str.ofString "is_led" then v1 else if y = Str.ofString "word" then v2 else if y = Str.ofString "deeds" then v3 else M3 o1 o2 o3 m0 y) = M3 v1 v2 v3 m0 := by
  funext y
  unfold M3
  by_cases h1 : y = Str.ofString "is_led"
  · simp only [if_pos h1]
  · by_cases h2 : y = Str.ofString "word"
    · simp only [if_neg h1, if_pos h2]
    · by_cases h3 : y = Str.ofString "deeds"
      · simp only [if_neg h1, if_neg h2, if_pos h3]
      · simp only [if_neg h1, if_neg h2, if_neg h3]
/-- the ledger between the turns -/
def Led (m0 : Str → Option Value) (c1 c2 c3 c4 : Addr) (o1 : Obj) (base : List (Addr × Obj)) (m : Str → Option Value) (nw : List (Addr × Obj)) : Prop :=
  ∃ v1 v2 v3 o2 o3 o4 tab B, m = M3 v1 v2 v3 m0 ∧ nw = (569, tabObj tab) :: (c4, o4) :: (c3, o3) :: (c2, o2) :: (c1, o1) :: B ∧ CellAt o2 ∧ CellAt o3 ∧ CellAt o4 ∧ Tab0 tab B ∧ (∀ q ∈ base, q ∈ B) ∧
    (∀ q ∈ B, q.1 ≠ c1) ∧ (∀ q ∈ B, q.1 ≠ c2) ∧ (∀ q ∈ B, q.1 ≠ c3) ∧ (∀ q ∈ B, q.1 ≠ c4) ∧ (∀ q ∈ B, q.1 ≠ 569)
section
variable {prog : Program} {w : World} {A : Around} {s₁ : Shared} {h₀ : Heap} {env : Env} {target : Expr} {body : List Stmt} {Q : Flow → Shared → Prop} {m0 : Str → Option Value} {c1 c2 c3 c4 r : Addr} {o1 o2 o3 o4 : Obj} {base : List (Addr × Obj)} {t u v : Tok}
/-- what a turn's end must show -/
def TurnEnd (h₀ : Heap) (L : Addr) (m0 : Str → Option Value) (c1 c2 c3 c4 : Addr) (o1 : Obj) (base : List (Addr × Obj)) (s₁ : Shared) (I : Addr) (oI : Obj) (f : Flow) (s₃ : Shared) : Prop :=
  f = .next ∧ ∃ h' tk' m₂ news₂, s₃ = { s₁ with heap := h', toks := tk' } ∧ Fr h₀ L h' m₂ ∧ News h₀ L h' ((I, oI) :: news₂) ∧ (∀ q ∈ news₂, q.1 ≠ I) ∧ Led m0 c1 c2 c3 c4 o1 base m₂ news₂
theorem law_loop (hh : A.handled = none) (F : Fr h₀ env.locals s₁.heap m0) (N : News h₀ env.locals s₁.heap ((569, tabObj #[]) :: (c4, o4) :: (c3, o3) :: (c2, o2) :: (c1, o1) :: base))
    (hr : IsRange s₁.heap r 0 16 1 t u v) (k2 : CellAt o2) (k3 : CellAt o3) (k4 : CellAt o4)
    (f1 : ∀ q ∈ base, q.1 ≠ c1) (f2 : ∀ q ∈ base, q.1 ≠ c2) (f3 : ∀ q ∈ base, q.1 ≠ c3) (f4 : ∀ q ∈ base, q.1 ≠ c4) (f5 : ∀ q ∈ base, q.1 ≠ 569)
    (step : ∀ (i : Nat) tv I oI h tk (E' : Value → Shared → Prop) v1 v2 v3 o2 o3 o4 tab B, i < 16 → CellAt o2 → CellAt o3 → CellAt o4 → Tab0 tab B → (∀ q ∈ base, q ∈ B) →
      (∀ q ∈ B, q.1 ≠ c1) → (∀ q ∈ B, q.1 ≠ c2) → (∀ q ∈ B, q.1 ≠ c3) → (∀ q ∈ B, q.1 ≠ c4) → (∀ q ∈ B, q.1 ≠ 569) → (∀ q ∈ B, q.1 ≠ I) → 569 ≠ I → c4 ≠ I → c3 ≠ I → c2 ≠ I → c1 ≠ I →
      Fr h₀ env.locals h (M3 v1 v2 v3 m0) → News h₀ env.locals h ((I, oI) :: (569, tabObj tab) :: (c4, o4) :: (c3, o3) :: (c2, o2) :: (c1, o1) :: B) →
      wpAny (model prog w) A (assign target env (.int (i : Nat) tv)) (fun _ s₂ => wpAny (model prog w) A (execs body env) (TurnEnd h₀ env.locals m0 c1 c2 c3 c4 o1 base s₁ I oI) E' s₂) E' { s₁ with heap := h, toks := tk })
    (hQ : ∀ h tk m tab B, (∀ q ∈ base, q ∈ B) → Fr h₀ env.locals h m → News h₀ env.locals h ((569, tabObj tab) :: B) → Q .next { s₁ with heap := h, toks := tk }) :
    RSrc prog w A h₀ env target body Q (.ref r) s₁ := by
  refine ⟨r, 16, t, u, v, m0, _, fun _ m nw => Led m0 c1 c2 c3 c4 o1 base m nw, rfl, hh, F, N, hr, by decide, by decide, ⟨_, _, _, o2, o3, o4, #[], base, (M3_self m0).symm, rfl, k2, k3, k4, .inl rfl, fun _ h => h, f1, f2, f3, f4, f5⟩, ?_, fun h tk m news F N ⟨_, _, _, _, _, _, tab, B, _, e, _, _, _, _, hb, _⟩ => hQ h tk m tab B hb F (news_sub N fun q hq => by
    subst e
    rcases List.mem_cons.mp hq with rfl | hq
    · exact .head _
    · exact .tail _ (.tail _ (.tail _ (.tail _ (.tail _ hq)))))⟩
  rintro i tv I oI m₁ news₁ h tk E' hi ⟨v1, v2, v3, o2, o3, o4, tab, B, rfl, rfl, k2, k3, k4, ht, hb, f1, f2, f3, f4, f5⟩ F N off
  refine wpAny_mono (step i tv I oI h tk E' v1 v2 v3 o2 o3 o4 tab B hi k2 k3 k4 ht hb f1 f2 f3 f4 f5 (fun q hq => off q (.tail _ (.tail _ (.tail _ (.tail _ (.tail _ hq)))))) (off _ (.head _)) (off _ (.tail _ (.head _))) (off _ (.tail _ (.tail _ (.head _)))) (off _ (.tail _ (.tail _ (.tail _ (.head _))))) (off _ (.tail _ (.tail _ (.tail _ (.tail _ (.head _)))))) F N) (fun _ s₂ h₂ => ?_) fun _ _ e => e
  exact h₂
end
end
theorem fresh_Tu : True ∧ True := by
  k_with_none
  (k_with "binaryOp Pow int int 1" => row_timed "fresh" (fail; (((with_reducible refine Mine.my_pow ?kb1 ?kb2 ?kb3 ?kb4 ?_); (case kb1 => decide); (case kb2 => decide); (case kb3 => first | decide | (with_reducible exact (Mine.pow3_bnd (PySem.W.fmod_lo _ (by decide)) (PySem.W.fmod_hi _ (by decide)) (by assumption) (by assumption)).1) | (with_reducible exact (Mine.pow5_bnd (by assumption) (by assumption)).1)); (case kb4 => first | decide | (with_reducible exact (Mine.pow3_bnd (PySem.W.fmod_lo _ (by decide)) (PySem.W.fmod_hi _ (by decide)) (by assumption) (by assumption)).2) | (with_reducible exact (Mine.pow5_bnd (by assumption) (by assumption)).2)); intro r' hr'))))
  (k_with "m:kroom" => row_timed "fresh" (fail; ((simp only [PyProof.Rows.depth_deeper, PySem.recursionLimit] at *; omega))))
  (k_with "m:zmem" => row_timed "fresh" (fail; (first | with_reducible exact List.Mem.head _ | (with_reducible refine' List.Mem.tail _ ?_; k_extra "m:zmem") | (with_reducible refine mapp_r ?_; k_extra "m:zmem") | (refine mapp_l ?_; assumption))))
  w_top off
  first | (walk1; done) | exact ⟨trivial, trivial⟩
section
theorem letter_inj : ∀ k, k < 4 → ∀ k', k' < 4 → letter k = letter k' → k = k' := by decide +kernel
theorem leaf_one {P : Addr → Obj → Prop} (hP : ∀ a o o', P a o → P a o' → o = o') {v : Value} {k k' : Nat} (h : CnAt P v (.leaf v k)) (h' : CnAt P v (.leaf v k')) : k = k' := by
  cases h with
  | leaf hk hx ha hb he1 he2 =>
    cases h' with
    | leaf hk' hx' ha' hb' he1' he2' =>
      have e := hP _ _ _ ha ha'
      injection e with _ _ e3 _
      injection e3 with e4 _
      simp only [List.toArray] at e4
      injection e4 with e5
      injection e5 with _ e6
      injection e6 with _ e7
      injection e7 with e8 _
      injection e8 with e9
      subst e9
      have e := hP _ _ _ hb hb'
      injection e with _ _ e3 _
      injection e3 with e4 _
      injection e4 with e5
      injection e5 with _ e6
      injection e6 with e7 _
      injection e7 with e8 _
      exact letter_inj _ hk _ hk' (hx.symm.trans (e8.trans hx'))
/-- what the letters say of a leaf -/
noncomputable def trOf (P : Addr → Obj → Prop) (bs : List Bool) (v : Value) : Bool := by
  classical exact decide (∃ k, CnAt P v (.leaf v k) ∧ bs.getD k false = true)
theorem trOf_leaf {P : Addr → Obj → Prop} (hP : ∀ a o o', P a o → P a o' → o = o') {bs : List Bool} {v : Value} {k : Nat} (h : CnAt P v (.leaf v k)) : trOf P bs v = bs.getD k false := by
  classical
  unfold trOf
  by_cases e : bs.getD k false = true
  · rw [e]; exact decide_eq_true ⟨k, h, e⟩
  · rw [Bool.not_eq_true] at e
    rw [e]
    refine decide_eq_false ?_
    rintro ⟨k', h', e'⟩
    rw [← leaf_one hP h h', e] at e'
    cases e'
theorem leaf_at {P : Addr → Obj → Prop} {v v' : Value} {k : Nat} (h : CnAt P v' (.leaf v k)) : v' = v := by cases h; rfl
theorem truth_val {P : Addr → Obj → Prop} (hP : ∀ a o o', P a o → P a o' → o = o') {bs : List Bool} {v : Value} {c : Cn} (h : CnAt P v c) : c.truth (trOf P bs) = c.val bs := by
  induction h with
  | @leaf a b e1 e2 k n1 n2 n3 n4 t1 t2 t3 t4 x hk hx ha hb he1 he2 => exact trOf_leaf hP (.leaf hk hx ha hb he1 he2)
  | neg ha hc ih => simp only [Cn.truth, Cn.val, ih]
  | con ha h1 h2 i1 i2 => simp only [Cn.truth, Cn.val, i1, i2]
theorem log_num {vs : List Value} {ls : List LI} {i : Int} (h : LogIs vs (ls ++ [.num i])) : ∃ vs' t, vs = vs' ++ [.int i t] ∧ LogIs vs' ls := by
  generalize e : ls ++ [LI.num i] = l at h
  cases h with
  | nil => simp at e
  | num j t h =>
    obtain ⟨e1, e2⟩ := List.append_inj' e rfl
    cases e2
    subst e1
    exact ⟨_, t, rfl, h⟩
  | cnd v h =>
    obtain ⟨_, e2⟩ := List.append_inj' e rfl
    cases e2
theorem log_cnd {vs : List Value} {ls : List LI} {v : Value} (h : LogIs vs (ls ++ [.cnd v])) : ∃ vs', vs = vs' ++ [v] ∧ LogIs vs' ls := by
  generalize e : ls ++ [LI.cnd v] = l at h
  cases h with
  | nil => simp at e
  | num j t h =>
    obtain ⟨_, e2⟩ := List.append_inj' e rfl
    cases e2
  | cnd v h =>
    obtain ⟨e1, e2⟩ := List.append_inj' e rfl
    cases e2
    subst e1
    exact ⟨_, rfl, h⟩
theorem log_cnds {ls : List LI} : ∀ (r : List Value) {vs : List Value}, LogIs vs (ls ++ r.reverse.map .cnd) → ∃ vs', vs = vs' ++ r.reverse ∧ LogIs vs' ls
  | [], vs, h => ⟨vs, by simp, by simpa using h⟩
  | v :: r, vs, h => by
    rw [List.reverse_cons, List.map_append, ← List.append_assoc] at h
    obtain ⟨vs1, rfl, h1⟩ := log_cnd h
    obtain ⟨vs', rfl, h2⟩ := log_cnds r h1
    exact ⟨vs', by simp, h2⟩
theorem log_nil {vs : List Value} (h : LogIs vs []) : vs = [] := by
  generalize e : ([] : List LI) = l at h
  cases h with
  | nil => rfl
  | num j t h => simp at e
  | cnd v h => simp at e
theorem log_all {vs lg : List Value} {i j : Int} (h : LogIs vs ([LI.num i] ++ lg.map LI.cnd ++ [LI.num j])) : ∃ t u, vs = .int i t :: (lg ++ [.int j u]) := by
  obtain ⟨vs1, u, rfl, h1⟩ := log_num h
  have : lg = lg.reverse.reverse := by simp
  rw [this] at h1
  obtain ⟨vs2, rfl, h2⟩ := log_cnds lg.reverse h1
  have h3 : LogIs vs2 ([] ++ [LI.num i]) := h2
  obtain ⟨vs3, t, rfl, h4⟩ := log_num h3
  rw [log_nil h4]
  exact ⟨t, u, by simp⟩
theorem mid_pick {v u : Value} {lg : List Value} : kms_pick (v :: (lg ++ [u])) (some 1) (some (-1)) = lg := by
  have e1 : kms_lo (some 1) (v :: (lg ++ [u])).length = 1 := by
    simp only [kms_lo, List.length_cons, List.length_append]
    rw [if_neg (by decide)]
    show min 1 _ = 1
    omega
  have e2 : kms_hi (some (-1)) (v :: (lg ++ [u])).length = lg.length + 1 := by
    simp only [kms_hi, List.length_cons, List.length_append, List.length_nil]
    rw [if_pos (by decide)]
    show lg.length + (0 + 1) + 1 - 1 = _
    omega
  unfold kms_pick
  rw [e1, e2]
  simp
end
theorem fresh_TuU : True ∧ True := by
  k_with_none
  (k_with "binaryOp Pow int int 1" => row_timed "fresh" (fail; (((with_reducible refine Mine.my_pow ?kb1 ?kb2 ?kb3 ?kb4 ?_); (case kb1 => decide); (case kb2 => decide); (case kb3 => first | decide | (with_reducible exact (Mine.pow3_bnd (PySem.W.fmod_lo _ (by decide)) (PySem.W.fmod_hi _ (by decide)) (by assumption) (by assumption)).1) | (with_reducible exact (Mine.pow5_bnd (by assumption) (by assumption)).1)); (case kb4 => first | decide | (with_reducible exact (Mine.pow3_bnd (PySem.W.fmod_lo _ (by decide)) (PySem.W.fmod_hi _ (by decide)) (by assumption) (by assumption)).2) | (with_reducible exact (Mine.pow5_bnd (by assumption) (by assumption)).2)); intro r' hr'))))
  (k_with "m:kroom" => row_timed "fresh" (fail; ((simp only [PyProof.Rows.depth_deeper, PySem.recursionLimit] at *; omega))))
  (k_with "m:zmem" => row_timed "fresh" (fail; (first | with_reducible exact List.Mem.head _ | (with_reducible refine' List.Mem.tail _ ?_; k_extra "m:zmem") | (with_reducible refine mapp_r ?_; k_extra "m:zmem") | (refine mapp_l ?_; assumption))))
  w_top off
  first | (walk1; done) | exact ⟨trivial, trivial⟩
section
section
variable {w : World} {p : Program} {loose : List Str} {mean : ExcName → Option Value} {mg mb : Str → Option Value} {A : Around} {s : Shared} {g : Heap} {L : Addr} {m : Str → Option Value} {Q : Value → Shared → Prop} {E : Value → Shared → Prop} {rest : List (Addr × Obj)}
theorem noted_use {v : Value} {ll : Addr} {vs : List Value} {n : Nat} (X : (hd.heap_1 w.params).In g) (T : Top p loose mean mg mb g) (hh : A.handled = none) (hd : A.depth ≤ 800) (hu : A.units ≤ 4000) (F : Fr g L s.heap m) (N : News g L s.heap [(ll, W.listOf vs.toArray n)]) (hlen : vs.length ≤ 1000)
    (h : ∀ t' n' h' tk, Fr g L h' m → News g L h' [(ll, W.listOf (vs ++ [v]).toArray n')] → Q (.str (Str.ofString "") t') { s with heap := h', toks := tk }) :
    wpAny (model PySem.Challenge.rw_pq0617_01.row.prog w) A (call (.ref 560) [v, .ref ll]) Q E s := by
  have hN := N _ (.head _)
  refine use2 (d := 800) (u := 4000) (noted_ok X T F.keep v ll vs n hN.1 hN.2.2 hlen (Nat.le_refl _) (Nat.le_refl _)) hh hd hu F N (fun b hb => by rw [List.mem_singleton.mp hb]; exact ⟨_, .head _⟩) ?_
  rintro r h' tk F' k1 k2 ⟨⟨t', rfl⟩, n', hg⟩
  exact h t' n' h' tk F' (k2 _ hg (.inl (.head _)))
theorem asked_use {v : Value} {k : Nat} {ll tl : Addr} {vs : List Value} {n nt : Nat} {b0 b1 b2 b3 : Bool} (X : (hd.heap_1 w.params).In g) (T : Top p loose mean mg mb g) (hh : A.handled = none) (hd : A.depth ≤ 800) (hu : A.units ≤ 4000) (F : Fr g L s.heap m) (N : News g L s.heap [(ll, W.listOf vs.toArray n)]) (hlen : vs.length ≤ 1000)
    (hc : CnAt (fun b ob => s.heap.get? b = some ob) v (.leaf v k)) (htl : s.heap.get? tl = some (W.listOf [.bool b0, .bool b1, .bool b2, .bool b3].toArray nt)) (hne : tl ≠ ll)
    (h : ∀ n' h' tk, Fr g L h' m → News g L h' [(ll, W.listOf (vs ++ [v]).toArray n')] → Q (.bool ([b0, b1, b2, b3].getD k false)) { s with heap := h', toks := tk }) :
    wpAny (model PySem.Challenge.rw_pq0617_01.row.prog w) A (call (.ref 567) [v, .ref tl, .ref ll]) Q E s := by
  have hN := N _ (.head _)
  refine use2 (d := 800) (u := 4000) (asked_ok X T F.keep v k ll tl vs n nt b0 b1 b2 b3 hc htl hne hN.1 hN.2.2 hlen (Nat.le_refl _) (Nat.le_refl _)) hh hd hu F N (fun b hb => by rw [List.mem_singleton.mp hb]; exact ⟨_, .head _⟩) ?_
  rintro r h' tk F' k1 k2 ⟨rfl, n', hg⟩
  exact h n' h' tk F' (k2 _ hg (.inl (.head _)))
theorem run_use {cx cdx ot bt dx ddx ll f1 f2 : Addr} {c1 c2 d1 d2 d3 d4 tl : Tok} {v3 v4 : Value} {ys : List Value} {fops : List Op} {no nl0 nd nc : Nat} {ok : Value → Prop} {tr : Value → Bool} {fuel : Nat} {x : Str} {lg : List LI}
    (X : (hd.heap_1 w.params).In g) (T : Top p loose mean mg mb g) (hh : A.handled = none) (hd : A.depth ≤ 580) (hu : A.units ≤ 2800) (F : Fr g L s.heap m) (N : News g L s.heap ((ll, W.listOf [].toArray nl0) :: rest)) (hoff : ∀ q ∈ rest, q.1 ≠ ll)
    (hcx : s.heap.get? cx = some (instObj 46 cdx)) (hcd : s.heap.get? cdx = some (dictOf (codE w c1 c2 ot bt) nc)) (hot : s.heap.get? ot = some (tupOf ys.toArray no))
    (hdx : s.heap.get? dx = some (instObj 511 ddx)) (hdd : s.heap.get? ddx = some (dictOf (deE w d1 d2 d3 d4 (.ref f1) (.ref f2) v3 v4) nd))
    (hops : OpsAt (fun b ob => s.heap.get? b = some ob) ys fops) (C1 : DoOk w s f1 ll) (C2 : TestOk w s f2 ll ok tr)
    (hok : ∀ v l, Op.test v l ∈ fops → ok v) (hlab : ∀ op ∈ fops, ∀ l, op.lab = some l → 0 ≤ l) (hlen : fops.length ≤ 1000)
    (hrun : runA fops tr fuel 0 [] = some (x, lg)) (hfu : fuel ≤ 300) (hx : (x == Str.ofString "") = false)
    (h : ∀ t vs n' h' tk, Fr g L h' m → News g L h' ((ll, W.listOf vs.toArray n') :: rest) → LogIs vs lg → Q (.str x t) { s with heap := h', toks := tk }) :
    wpAny (model PySem.Challenge.rw_pq0617_01.row.prog w) A (call (.ref 454) [.ref cx, .ref dx, .int 300 tl]) Q E s := by
  have hN := N _ (.head _)
  refine use2 (d := 580) (u := 2800) (run_ok X T F.keep cx cdx ot bt dx ddx ll f1 f2 c1 c2 d1 d2 d3 d4 tl v3 v4 ys fops no nl0 nd nc ok tr fuel x lg hcx hcd hot hdx hdd hN.1 hN.2.2 hops C1 C2 hok hlab hlen hrun hfu hx (Nat.le_refl _) (Nat.le_refl _)) hh hd hu F N (fun b hb => by rw [List.mem_singleton.mp hb]; exact ⟨_, .head _⟩) ?_
  rintro r h' tk F' k1 k2 ⟨⟨t', rfl⟩, vs, n', hg, hlg⟩
  exact h t' vs n' h' tk F' (news_cons (k2 _ hg (.inl (.head _))) (news_all fun q hq => k1 q (.tail _ hq) fun hm => hoff q hq (List.mem_singleton.mp hm))) hlg
end
end
theorem fresh_LamT : True ∧ True := by
  k_with_none
  (k_with "binaryOp Pow int int 1" => row_timed "fresh" (fail; (((with_reducible refine Mine.my_pow ?kb1 ?kb2 ?kb3 ?kb4 ?_); (case kb1 => decide); (case kb2 => decide); (case kb3 => first | decide | (with_reducible exact (Mine.pow3_bnd (PySem.W.fmod_lo _ (by decide)) (PySem.W.fmod_hi _ (by decide)) (by assumption) (by assumption)).1) | (with_reducible exact (Mine.pow5_bnd (by assumption) (by assumption)).1)); (case kb4 => first | decide | (with_reducible exact (Mine.pow3_bnd (PySem.W.fmod_lo _ (by decide)) (PySem.W.fmod_hi _ (by decide)) (by assumption) (by assumption)).2) | (with_reducible exact (Mine.pow5_bnd (by assumption) (by assumption)).2)); intro r' hr'))))
  (k_with "m:kroom" => row_timed "fresh" (fail; ((simp only [PyProof.Rows.depth_deeper, PySem.recursionLimit] at *; omega))))
  (k_with "m:zmem" => row_timed "fresh" (fail; (first | with_reducible exact List.Mem.head _ | (with_reducible refine' List.Mem.tail _ ?_; k_extra "m:zmem") | (with_reducible refine mapp_r ?_; k_extra "m:zmem") | (refine mapp_l ?_; assumption))))
  w_top off
  first | (walk1; done) | exact ⟨trivial, trivial⟩
section
theorem among0 {pos : Pos} {c1 c2 : Addr} (e1 : pos.line = 344) (e2 : pos.col = 0) : codeAmong pos #[rawInt 344, rawInt 0, .ref c1, rawInt 345, rawInt 0, .ref c2].toList = some (.ref c1) := by
  simp [codeAmong, rawInt, e1, e2]
theorem among1 {pos : Pos} {c1 c2 : Addr} (e1 : pos.line = 345) (e2 : pos.col = 0) : codeAmong pos #[rawInt 344, rawInt 0, .ref c1, rawInt 345, rawInt 0, .ref c2].toList = some (.ref c2) := by
  simp [codeAmong, rawInt, e1, e2]
theorem among2 {pos : Pos} {c1 : Addr} (e1 : pos.line = 345) : codeAmong pos #[rawInt 344, rawInt 0, .ref c1].toList = none := by
  simp [codeAmong, rawInt, e1]
theorem Tab0.case {pos : Pos} {tab : Array Value} {B rest : List (Addr × Obj)} (h : Tab0 tab B) (e1 : pos.line = 344) (e2 : pos.col = 0) (hB : ∀ q ∈ B, q ∈ rest) :
    codeAmong pos tab.toList = none ∨ ∃ c' oc vs t, codeAmong pos tab.toList = some (.ref c') ∧ (c', oc) ∈ rest ∧ oc.data = .fields vs ∧ vs[1]? = some (.str lawQ t) := by
  rcases h with rfl | ⟨c1, c2, rfl, ⟨oc, vs, t, a, b, d⟩, _⟩
  · exact .inl rfl
  · exact .inr ⟨c1, oc, vs, t, among0 e1 e2, hB _ a, b, d⟩
theorem Tab0.next {pos : Pos} {tab tab' : Array Value} {B B' : List (Addr × Obj)} {c' : Addr} (h : Tab0 tab B) (e1 : pos.line = 344) (e2 : pos.col = 0) (hB : ∀ q ∈ B, q ∈ B') (hc : CodeIn B' c')
    (k : (codeAmong pos tab.toList = none ∧ tab' = tab ++ #[rawInt pos.line, rawInt pos.col, .ref c']) ∨ (codeAmong pos tab.toList = some (.ref c') ∧ tab' = tab)) : Tab1 c' tab' B' := by
  rcases h with rfl | ⟨c1, c2, rfl, h1, h2⟩
  · rcases k with ⟨_, rfl⟩ | ⟨k, _⟩
    · rw [e1, e2]
      exact ⟨.inl (by simp), hc⟩
    · cases k
  · rw [among0 e1 e2] at k
    rcases k with ⟨k, _⟩ | ⟨k, rfl⟩
    · cases k
    · cases k
      exact ⟨.inr ⟨c2, rfl, h2.mono hB⟩, hc⟩
theorem Tab1.case {pos : Pos} {c1 : Addr} {tab : Array Value} {B rest : List (Addr × Obj)} (h : Tab1 c1 tab B) (e1 : pos.line = 345) (e2 : pos.col = 0) (hB : ∀ q ∈ B, q ∈ rest) :
    codeAmong pos tab.toList = none ∨ ∃ c' oc vs t, codeAmong pos tab.toList = some (.ref c') ∧ (c', oc) ∈ rest ∧ oc.data = .fields vs ∧ vs[1]? = some (.str lawQ t) := by
  rcases h with ⟨rfl | ⟨c2, rfl, ⟨oc, vs, t, a, b, d⟩⟩, _⟩
  · exact .inl (among2 e1)
  · exact .inr ⟨c2, oc, vs, t, among1 e1 e2, hB _ a, b, d⟩
theorem Tab1.next {pos : Pos} {c1 : Addr} {tab tab' : Array Value} {B B' : List (Addr × Obj)} {c' : Addr} (h : Tab1 c1 tab B) (e1 : pos.line = 345) (e2 : pos.col = 0) (hB : ∀ q ∈ B, q ∈ B') (hc : CodeIn B' c')
    (k : (codeAmong pos tab.toList = none ∧ tab' = tab ++ #[rawInt pos.line, rawInt pos.col, .ref c']) ∨ (codeAmong pos tab.toList = some (.ref c') ∧ tab' = tab)) : Tab0 tab' B' := by
  rcases h with ⟨rfl | ⟨c2, rfl, h2⟩, h1⟩
  · rw [among2 e1] at k
    rcases k with ⟨_, rfl⟩ | ⟨k, _⟩
    · rw [e1, e2]
      exact .inr ⟨c1, c', by simp, h1.mono hB, hc⟩
    · cases k
  · rw [among1 e1 e2] at k
    rcases k with ⟨k, _⟩ | ⟨k, rfl⟩
    · cases k
    · cases k
      exact .inr ⟨c1, _, rfl, h1.mono hB, hc⟩
section
variable {M : Model} {A : Around} {E : Value → Shared → Prop} {s : Shared} {h₀ : Heap} {L cd : Addr} {m mg mb : Str → Option Value} {env : Env} {pre B : List (Addr × Obj)}
  {p : Program} {loose : List Str} {mean : ExcName → Option Value} {params : Arguments} {body : Expr} {scope : Scope} {tab : Array Value} {pos : Pos} {clos : List (Str × Addr)}
/-- what a lambda's making leaves: the ledger's tail may have grown by its code -/
def LamEnd (s : Shared) (h₀ : Heap) (L : Addr) (m : Str → Option Value) (o : Addr → Value → Obj) (pre B : List (Addr × Obj)) (tab : Array Value) (K : Addr → Array Value → List (Addr × Obj) → Prop) (Q : Value → Shared → Prop) : Prop :=
  ∀ f c' ctv h' tk tab' B', Fr h₀ L h' m → News h₀ L h' ((f, o c' ctv) :: (569, tabObj tab') :: (pre ++ B')) → (∀ q ∈ B, q ∈ B') → (∀ q ∈ B', q ∈ B ∨ ∀ q' ∈ (569, tabObj tab) :: (pre ++ B), q'.1 < q.1) → (∀ q ∈ pre ++ B', q.1 < f) → 569 < f → CodeIn B' c' → K c' tab' B' → Q (.ref f) { s with heap := h', toks := tk }
theorem lam_turn {Q : Value → Shared → Prop} {K : Addr → Array Value → List (Addr × Obj) → Prop} (hdef : defaultsOf params env = ([], [])) (hge : env.globals = mainGlobals) (hcd : env.code = .ref cd) (hq : env.qual ++ "<lambda>" = lawQ) (F : Fr h₀ L s.heap m) (N : News h₀ L s.heap ((569, tabObj tab) :: (pre ++ B))) (T : Top p loose mean mg mb h₀) (C : CodeHd h₀ cd 569) (ht : TriplesOk tab.toList) (hoff : ∀ q ∈ pre ++ B, q.1 ≠ 569)
    (hcase : codeAmong pos tab.toList = none ∨ ∃ c' oc vs t, codeAmong pos tab.toList = some (.ref c') ∧ (c', oc) ∈ B ∧ oc.data = .fields vs ∧ vs[1]? = some (.str lawQ t))
    (hnext : ∀ {c' tab' B'}, (∀ q ∈ B, q ∈ B') → CodeIn B' c' → ((codeAmong pos tab.toList = none ∧ tab' = tab ++ #[rawInt pos.line, rawInt pos.col, .ref c']) ∨ (codeAmong pos tab.toList = some (.ref c') ∧ tab' = tab)) → K c' tab' B')
    (hcl : closureFor scope env = pure clos)
    (h : LamEnd s h₀ L m (fun c' ctv => kla_obj "<lambda>" (env.qual ++ "<lambda>") params body scope clos ((mg "__name__").getD .none) c' ctv) pre B tab K Q) :
    wpAny M A (eval (.Lambda params body scope pos) env) Q E s := by
  rcases hcase with hn | ⟨c', oc, vs, t, hf, hm, hd, hv⟩
  · refine lam_new hdef hge hcd F N T C (UpdF.head hoff) ht hn hcl ?_
    intro f c' oc vs t ctv h' tk F' N' hd hv l1 l2
    have hc : CodeIn ((c', oc) :: B) c' := ⟨oc, vs, t, .head _, hd, by rw [← hq]; exact hv⟩
    refine h f c' ctv h' tk _ ((c', oc) :: B) F' (news_sub N' fun q hq => ?_) (fun q hq => .tail _ hq) (fun q hq => ?_) (fun q hq => ?_) (Nat.lt_trans (l1 _ (.head _)) l2) hc (hnext (fun q hq => .tail _ hq) hc (.inl ⟨hn, rfl⟩))
    · simp only [List.mem_cons, List.mem_append] at hq ⊢
      rcases hq with hq | hq | hq | hq | hq <;> simp [hq]
    · rcases List.mem_cons.mp hq with rfl | hq
      · exact .inr fun q' hq' => l1 q' hq'
      · exact .inl hq
    · rcases List.mem_append.mp hq with hq | hq
      · exact Nat.lt_trans (l1 q (.tail _ (List.mem_append_left _ hq))) l2
      · rcases List.mem_cons.mp hq with rfl | hq
        · exact l2
        · exact Nat.lt_trans (l1 q (.tail _ (List.mem_append_right _ hq))) l2
  · refine lam_hit hdef hge hcd F N T C (.head _) ht hf hcl ?_
    intro f ctv h' tk F' N' l1
    have hc : CodeIn B c' := ⟨oc, vs, t, hm, hd, hv⟩
    exact h f c' ctv h' tk tab B F' N' (fun _ h => h) (fun q hq => .inl hq) (fun q hq => l1 q (.tail _ hq)) (l1 _ (.head _)) hc (hnext (fun _ h => h) hc (.inr ⟨hf, rfl⟩))
end
theorem allLt_ne {d : Nat} {l : List (Addr × Obj)} (h : AllLt d l) : ∀ q ∈ l, q.1 ≠ d := by
  induction l with
  | nil => exact fun _ h => nomatch h
  | cons p r ih =>
    intro q hq
    rcases List.mem_cons.mp hq with e | hq
    · rw [e]; exact Nat.ne_of_lt h.1
    · exact ih h.2 q hq
theorem off1_ne {D : Addr} {l : List (Addr × Obj)} (h : LCg.Off1 D l) : ∀ q ∈ l, q.1 ≠ D := by
  induction l with
  | nil => exact fun _ h => nomatch h
  | cons p r ih =>
    intro q hq
    rcases List.mem_cons.mp hq with e | hq
    · rw [e]; exact h.1
    · exact ih h.2 q hq
/-- the tail stays off an address -/
theorem off_grow {B B' W : List (Addr × Obj)} {c : Addr} (h : ∀ q ∈ B', q ∈ B ∨ ∀ q' ∈ W, q'.1 < q.1) (ho : ∀ q ∈ B, q.1 ≠ c) {o : Obj} (hm : (c, o) ∈ W) : ∀ q ∈ B', q.1 ≠ c := fun q hq => (h q hq).elim (ho q) fun k => Nat.ne_of_gt (k _ hm)
end
theorem fresh_L3a : True ∧ True := by
  k_with_none
  (k_with "binaryOp Pow int int 1" => row_timed "fresh" (fail; (((with_reducible refine Mine.my_pow ?kb1 ?kb2 ?kb3 ?kb4 ?_); (case kb1 => decide); (case kb2 => decide); (case kb3 => first | decide | (with_reducible exact (Mine.pow3_bnd (PySem.W.fmod_lo _ (by decide)) (PySem.W.fmod_hi _ (by decide)) (by assumption) (by assumption)).1) | (with_reducible exact (Mine.pow5_bnd (by assumption) (by assumption)).1)); (case kb4 => first | decide | (with_reducible exact (Mine.pow3_bnd (PySem.W.fmod_lo _ (by decide)) (PySem.W.fmod_hi _ (by decide)) (by assumption) (by assumption)).2) | (with_reducible exact (Mine.pow5_bnd (by assumption) (by assumption)).2)); intro r' hr'))))
  (k_with "m:kroom" => row_timed "fresh" (fail; ((simp only [PyProof.Rows.depth_deeper, PySem.recursionLimit] at *; omega))))
  (k_with "m:zmem" => row_timed "fresh" (fail; (first | with_reducible exact List.Mem.head _ | (with_reducible refine' List.Mem.tail _ ?_; k_extra "m:zmem") | (with_reducible refine mapp_r ?_; k_extra "m:zmem") | (refine mapp_l ?_; assumption))))
  (k_with "m:zcut" => row_timed "fresh" (fail; ((rename _ => zz; first | exact zz.h | (revert zz; k_extra "m:zcut")))))
  w_top off
  first | (walk1; done) | exact ⟨trivial, trivial⟩
section
theorem word_33 : True := by
  (k_with "m:room" => row_timed "fresh" (fail; (((try simp only [depth_deeper, units_deeper, AT_depth, AT_units, Cn.deep]); omega))))
  (k_with "call ref cons nil 1" => row_timed "fresh" (fail; (((first | show wpAny _ _ (call (Value.ref 520) [_]) _ _ _ | show wpAny _ _ (call (Value.ref 534) [_, _]) _ _ _ | show wpAny _ _ (call (Value.ref 527) [_, _]) _ _ _ | show wpAny _ _ (call (Value.ref 553) [_, _]) _ _ _ | show wpAny _ _ (call (Value.ref 43) [_]) _ _ _ | show wpAny _ _ (call (Value.ref 539) [_]) _ _ _ | show wpAny _ _ (call (Value.ref 454) [_, _, _]) _ _ _ | show wpAny _ _ (call (Value.ref 546) [_, _]) _ _ _ | show wpAny _ _ (call (Value.ref 511) [_, _, _, _]) _ _ _); refine' hold_in ?_))))
  (k_with "call ref nil" => row_timed "fresh" (fail; (((show wpAny _ _ (call (Value.ref 43) [_]) _ _ _); refine' hold_in ?_))))
  trivial
theorem news_dr {g h : Heap} {L : Addr} {R1 R2 R : List (Addr × Obj)} {a b c d e t1 t2 c1 c2 c3 c4 : Addr × Obj} (N : News g L h (a :: b :: c :: d :: e :: t1 :: (R1 ++ (R2 ++ t2 :: c1 :: c2 :: c3 :: c4 :: R)))) :
    News g L h (t1 :: t2 :: c1 :: c2 :: c3 :: c4 :: a :: b :: c :: d :: e :: (R1 ++ (R ++ R2))) := news_flat (B := R) [[a], [b], [c], [d], [e], [t1], R1, R2, [t2], [c1], [c2], [c3], [c4]] [6, 9, 10, 11, 12, 13, 1, 2, 3, 4, 5, 7, 0] 8 N
theorem news_dr2 {g h : Heap} {L : Addr} {R1 R2 R3 R4 R : List (Addr × Obj)} {a b c d e a' b' c' d' e' t1 D1 t2 c1 c2 c3 c4 : Addr × Obj} (N : News g L h (a' :: b' :: c' :: d' :: e' :: t1 :: (R3 ++ (R4 ++ D1 :: t2 :: c1 :: c2 :: c3 :: c4 :: a :: b :: c :: d :: e :: (R1 ++ (R ++ R2)))))) :
    News g L h (a' :: b' :: c' :: d' :: e' :: t2 :: c1 :: c2 :: c3 :: c4 :: b :: c :: d :: e :: t1 :: (R1 ++ (R ++ R3))) := news_flat (B := R2) [[a'], [b'], [c'], [d'], [e'], [t1], R3, R4, [D1], [t2], [c1], [c2], [c3], [c4], [a], [b], [c], [d], [e], R1, R] [1, 2, 3, 4, 5, 10, 11, 12, 13, 14, 16, 17, 18, 19, 6, 20, 21] 7 N
theorem news_dr3 {g h : Heap} {L : Addr} {R1 R3 R : List (Addr × Obj)} {b c d e a' b' c' d' e' f' g' t1 t2 c1 c2 c3 c4 : Addr × Obj} (N : News g L h (a' :: b' :: c' :: d' :: e' :: f' :: g' :: t2 :: c1 :: c2 :: c3 :: c4 :: b :: c :: d :: e :: t1 :: (R1 ++ (R ++ R3)))) :
    News g L h (t2 :: c1 :: c2 :: c3 :: c4 :: b :: c :: d :: e :: t1 :: (R1 ++ R)) := news_flat (B := R3) [[a'], [b'], [c'], [d'], [e'], [f'], [g'], [t2], [c1], [c2], [c3], [c4], [b], [c], [d], [e], [t1], R1, R] [8, 9, 10, 11, 12, 13, 14, 15, 16, 17, 18] 19 N
theorem off_join {R1 R news1 news : List (Addr × Obj)} {q' : Addr × Obj} (h1 : ∀ q ∈ R1, ∀ q' ∈ news1, q'.1 ≠ q.1) (h2 : ∀ q ∈ R, ∀ q' ∈ news, q'.1 ≠ q.1) (m1 : q' ∈ news1) (m2 : q' ∈ news) : ∀ q ∈ R1 ++ R, q.1 ≠ q'.1 := fun q hq =>
  (List.mem_append.mp hq).elim (fun h => Ne.symm (h1 q h q' m1)) fun h => Ne.symm (h2 q h q' m2)
theorem news_swap {g h : Heap} {L : Addr} {r : List (Addr × Obj)} {a b : Addr × Obj} (N : News g L h (a :: b :: r)) :
    News g L h (b :: a :: r) := news_flat (B := r) [[a], [b]] [2, 1] 0 N
theorem word_34 : True := by
  (k_with "m:zoff" => row_timed "fresh" (fail; (first | assumption | exact List.forall_mem_nil _ | (refine List.forall_mem_append.mpr ⟨?_, ?_⟩ <;> k_extra "m:zoff") | (refine List.forall_mem_cons.mpr ⟨by k_ne, ?_⟩; k_extra "m:zoff"))))
  (k_with "m:ne" => row_timed "fresh" (fail; (first | assumption | (apply Ne.symm; assumption))))
  trivial
theorem fin_short {c : Cn} {wn : Bool} (h : c.size ≤ 16) : (finOps c wn).length ≤ 40 := by
  have h1 := fin_len c wn
  have h2 := (emit_len c wn 0 1 [-1]).1
  simp only [draftE] at h1
  omega
theorem size_deep : ∀ c : Cn, c.size + 1 ≤ 2 ^ (c.deep + 1)
  | .leaf _ _ => by simp [Cn.size, Cn.deep]
  | .neg c => by
    have := size_deep c
    simp only [Cn.size, Cn.deep, Nat.pow_succ] at this ⊢
    omega
  | .con _ a b => by
    have h1 := size_deep a
    have h2 := size_deep b
    have h3 : 2 ^ (a.deep + 1) ≤ 2 ^ (max a.deep b.deep + 1) := Nat.pow_le_pow_right (by decide) (by omega)
    have h4 : 2 ^ (b.deep + 1) ≤ 2 ^ (max a.deep b.deep + 1) := Nat.pow_le_pow_right (by decide) (by omega)
    simp only [Cn.size, Cn.deep]
    rw [Nat.pow_succ]
    omega
theorem spot_lt {x : Int} (h : x ≤ 0 + dr 3) : x < 1000 := by
  have : dr 3 ≤ 100 := by decide
  omega
theorem size_le {c : Cn} (h : c.deep ≤ 3) : c.size ≤ 15 := by
  have h1 := size_deep c
  have h2 : 2 ^ (c.deep + 1) ≤ 2 ^ 4 := Nat.pow_le_pow_right (by decide) (by omega)
  omega
theorem news_tab {g h : Heap} {L : Addr} {R : List (Addr × Obj)} {c1 c2 c3 c4 t1 t2 : Addr × Obj} (N : News g L h (R ++ [c1, c2, c3, c4, t1, t2])) : News g L h (t1 :: t2 :: c1 :: c2 :: c3 :: c4 :: R) := news_sub N fun q hq => by
  simp only [List.mem_cons, List.mem_append, List.mem_nil_iff, or_false] at hq ⊢
  rcases hq with h | h | h | h | h | h | h <;> simp [h]
theorem off_tab {R : List (Addr × Obj)} {c1 c2 c3 c4 t1 t2 : Addr × Obj} (h : ∀ q ∈ R, ∀ q' ∈ [c1, c2, c3, c4, t1, t2], q'.1 ≠ q.1) (h1 : c1.1 ≠ t1.1) (h2 : c2.1 ≠ t1.1) (h3 : c3.1 ≠ t1.1) (h4 : c4.1 ≠ t1.1) (h5 : t2.1 ≠ t1.1) : ∀ q ∈ t2 :: c1 :: c2 :: c3 :: c4 :: R, q.1 ≠ t1.1 := fun q hq => by
  simp only [List.mem_cons] at hq
  rcases hq with rfl | rfl | rfl | rfl | rfl | hq
  · exact h5
  · exact h1
  · exact h2
  · exact h3
  · exact h4
  · exact Ne.symm (h q hq t1 (by simp))
theorem word_35 : True := by
  (k_with "compareOp NotEq ref ref" => row_timed "fresh" (fail; (refine' hold_in ?_)))
  (k_with "m:all" => row_timed "fresh" (fail; (assumption)))
  trivial
structure Cut (P : Prop) : Prop where
  h : P
set_option maxHeartbeats 8000000 in
def cut1 : (P : Prop) ×' (Cut P → PySem.Challenge.rw_pq0617_01.Holds) := by
  refine ⟨?P, ?main⟩
  case main =>
  intro hP
  refine (fun h9 => holds_law said fun _ => hd h9) ?_
  w_strict (k_go0)
  w_strict (k_steps)
  unfold Hold
  refine pen_use (by k_asm) (by k_asm) rfl (Nat.le_of_ble_eq_true rfl) (Nat.le_of_ble_eq_true rfl) (by k_asm) (by k_asm) (by k_asm) (by k_asm) (by omega) ?_
  intro pa pI oI pcells pns pt1 pt2 pn h1 tk1 hIc hId hpns hpl hpne F1 N1 hpo
  k_sweep
  try dsimp only
  w_strict (k_steps)
  unfold Hold
  refine condL_use (n := 3) (by k_asm) (by k_asm) rfl (Nat.le_of_ble_eq_true rfl) (Nat.le_of_ble_eq_true rfl) (by k_asm) (by k_asm) hpne hpo hIc hId hpns hpl (by decide) (by decide) rfl ?_
  intro cv cc R spot' left' ct1 ct2 cn h2 tk2 hcond hdeep hRo hRr hs1 hs2 F2 N2
  k_sweep
  try dsimp only
  w_strict (k_steps)
  unfold Hold
  refine drawL_use (by k_asm) (by k_asm) rfl (Nat.le_of_ble_eq_true rfl) (Nat.le_of_ble_eq_true rfl) (by k_asm) (by k_asm) hpne ?_ hIc hId hpns hpl (by omega) (spot_lt hs2) (by decide) (by decide) ?_
  · intro q hq
    rcases List.mem_append.mp hq with hq | hq
    · exact (hRo q hq).1
    · exact (hpo q hq).1
  intro dd td h3 tk3 hd0 hd1 F3 N3
  replace N3 := news_tab N3
  k_sweep
  try dsimp only
  w_strict (k_steps)
  unfold Hold
  have hsz := size_le hdeep
  refine drafted_use (c := cc) (tab := #[]) (by k_asm) (by k_asm) rfl (Nat.le_trans (Nat.add_le_add_right (Nat.add_le_add_left hdeep _) _) (Nat.le_of_ble_eq_true rfl)) (Nat.le_trans (Nat.add_le_add_right (Nat.add_le_add_left (Nat.mul_le_mul_left 10 hdeep) _) _) (Nat.le_of_ble_eq_true rfl)) (by k_asm) (by k_asm) (off_tab hRr (by k_ne) (by k_ne) (by k_ne) (by k_ne) (by k_ne)) (by k_asm) (hcond.mono fun b ob hb => News.get (by k_asm) (.tail _ (.tail _ (.tail _ (.tail _ (.tail _ (.tail _ hb))))))) (.inl rfl) (by omega) ?_
  intro r0 nr cx cdx ot bt u1 u2 u3 ys n6 n4 n5 tab1 R1 R2 h4 tk4 F4 N4 hR1 oR2 hfr1 hops1 htab1
  replace N4 := news_dr N4
  have oR : ∀ q ∈ R, q.1 ≠ 111 := fun q hq => Ne.symm (hRr q hq (111, tabObj #[]) (by simp))
  have oR1 : ∀ q ∈ R1, q.1 ≠ 111 := fun q hq => Ne.symm (hR1 q hq (111, tabObj #[]) (.head _))
  obtain ⟨o1, o2, o3, o4, o5⟩ : (111 : Addr) ≠ r0 ∧ (111 : Addr) ≠ cx ∧ (111 : Addr) ≠ cdx ∧ (111 : Addr) ≠ ot ∧ (111 : Addr) ≠ bt := hfr1 (111, tabObj #[]) (.head _)
  have oc1 := off_join hR1 hRr (.tail _ (.tail _ (.head _))) (.head _)
  have oc2 := off_join hR1 hRr (.tail _ (.tail _ (.tail _ (.head _)))) (.tail _ (.head _))
  have oc3 := off_join hR1 hRr (.tail _ (.tail _ (.tail _ (.tail _ (.head _))))) (.tail _ (.tail _ (.head _)))
  have oc4 := off_join hR1 hRr (.tail _ (.tail _ (.tail _ (.tail _ (.tail _ (.head _)))))) (.tail _ (.tail _ (.tail _ (.head _))))
  have oct := off_join hR1 hRr (.tail _ (.head _)) (.tail _ (.tail _ (.tail _ (.tail _ (.tail _ (.head _))))))
  have of1 := hfr1 _ (.tail _ (.tail _ (.head _)))
  have of2 := hfr1 _ (.tail _ (.tail _ (.tail _ (.head _))))
  have of3 := hfr1 _ (.tail _ (.tail _ (.tail _ (.tail _ (.head _)))))
  have of4 := hfr1 _ (.tail _ (.tail _ (.tail _ (.tail _ (.tail _ (.head _))))))
  have oft := hfr1 _ (.tail _ (.head _))
  dsimp only at oc1 oc2 oc3 oc4 oct of1 of2 of3 of4 oft
  obtain ⟨p1, p2, p3, p4, p5⟩ := of1
  obtain ⟨p6, p7, p8, p9, p10⟩ := of2
  obtain ⟨p11, p12, p13, p14, p15⟩ := of3
  obtain ⟨p16, p17, p18, p19, p20⟩ := of4
  obtain ⟨p21, p22, p23, p24, p25⟩ := oft
  k_sweep
  try dsimp only
  w_strict (k_steps)
  unfold Hold
  rename_i D1 h5 F5 N5 l5
  replace N5 := news_swap N5
  have hcc : CnAt (fun b ob => h5.get? b = some ob) cv cc := hcond.mono fun b ob hb => News.get N5 (.tail _ (.tail _ (.tail _ (.tail _ (.tail _ (.tail _ (.tail _ (.tail _ (.tail _ (.tail _ (.tail _ (.tail _ (List.mem_append_right _ (List.mem_append_left _ hb))))))))))))))
  refine drafted_use (c := .neg cc) (wn := !(dd == 1)) (tab := tab1) (by k_asm) (by k_asm) rfl (Nat.le_trans (Nat.add_le_add_right (Nat.add_le_add_left (Nat.succ_le_succ hdeep) _) _) (Nat.le_of_ble_eq_true rfl)) (Nat.le_trans (Nat.add_le_add_right (Nat.add_le_add_left (Nat.mul_le_mul_left 10 (Nat.succ_le_succ hdeep)) _) _) (Nat.le_of_ble_eq_true rfl)) (by k_asm) N5 (by k_extra "m:zoff") (by k_asm) (.neg (News.get N5 (.tail _ (.head _))) hcc) (htab1.mono fun b ob hb => hb.elim (fun hb => News.get N5 (.tail _ (.tail _ (.tail _ (.tail _ (.tail _ (.tail _ (.tail _ (.tail _ (.tail _ (.tail _ (.tail _ (.tail _ (List.mem_append_right _ (List.mem_append_right _ hb))))))))))))))) fun hb => F5.keep _ _ hb) (by simp only [Cn.size]; omega) ?_
  intro r0' nr' cx' cdx' ot' bt' u1' u2' u3' ys' n6' n4' n5' tab2 R3 R4 h6 tk6 F6 N6 hR3 oR4 hfr2 hops2 htab2
  replace N6 := news_dr2 N6
  clear N5 F5 htab2 htab1 hcc
  k_sweep
  try dsimp only
  w_strict (k_steps)
  unfold Hold
  have hys2 : ys'.length ≤ 40 := by rw [hops2.length]; exact fin_short (by simp only [Cn.size]; omega)
  have hys1 : ys.length ≤ 40 := by rw [hops1.length]; exact fin_short (by omega)
  refine told_use (by k_asm) (by k_asm) rfl (Nat.le_of_ble_eq_true rfl) (Nat.le_of_ble_eq_true rfl) (by k_asm) N6 (News.get N6 (by k_mem)) (News.get N6 (by k_mem)) (News.get N6 (by k_mem)) (News.get N6 (by k_mem)) (by omega) ?_
  intro a1 na1 h7 tk7 F7 N7 ha1
  clear N6 F6
  k_sweep
  try dsimp only
  w_strict (k_steps)
  unfold Hold
  refine told_use (by k_asm) (by k_asm) rfl (Nat.le_of_ble_eq_true rfl) (Nat.le_of_ble_eq_true rfl) (by k_asm) N7 (News.get N7 (by k_mem)) (News.get N7 (by k_mem)) (News.get N7 (by k_mem)) (News.get N7 (by k_mem)) (by omega) ?_
  intro a2 na2 h8 tk8 F8 N8 ha2
  clear N7 F7
  k_sweep
  try dsimp only
  w_strict (k_steps)
  unfold Hold
  rw [fin_neg] at hops2
  have m2 : ∀ {b : Addr} {ob : Obj}, (b, ob) ∈ R → h8.get? b = some ob := fun hb => News.get N8 (.tail _ (.tail _ (.tail _ (.tail _ (.tail _ (.tail _ (.tail _ (.tail _ (.tail _ (.tail _ (.tail _ (.tail _ (.tail _ (.tail _ (.tail _ (.tail _ (.tail _ (List.mem_append_right _ (List.mem_append_left _ hb)))))))))))))))))))
  have m1 : ∀ {b : Addr} {ob : Obj}, (b, ob) ∈ R1 → h8.get? b = some ob := fun hb => News.get N8 (.tail _ (.tail _ (.tail _ (.tail _ (.tail _ (.tail _ (.tail _ (.tail _ (.tail _ (.tail _ (.tail _ (.tail _ (.tail _ (.tail _ (.tail _ (.tail _ (.tail _ (List.mem_append_left _ hb))))))))))))))))))
  have m3 : ∀ {b : Addr} {ob : Obj}, (b, ob) ∈ R3 → h8.get? b = some ob := fun hb => News.get N8 (.tail _ (.tail _ (.tail _ (.tail _ (.tail _ (.tail _ (.tail _ (.tail _ (.tail _ (.tail _ (.tail _ (.tail _ (.tail _ (.tail _ (.tail _ (.tail _ (.tail _ (List.mem_append_right _ (List.mem_append_right _ hb)))))))))))))))))))
  refine told_ne (fops := finOps cc (dd == 1)) (News.get N8 (.tail _ (.head _))) (News.get N8 (.head _)) (News.get N8 (by k_mem)) (News.get N8 (by k_mem)) (News.get N8 (by k_mem)) (News.get N8 (by k_mem)) (hops2.mono fun b ob hb => m3 hb) (hops1.mono fun b ob hb => m1 hb) (fun v l hm => ?_) (fun x hm => fin_stop hm) (Nat.lt_of_le_of_lt (Nat.le_of_ble_eq_true rfl) (by decide : 5000 < cLine)) ?_
  · obtain ⟨k, hk, hkc⟩ := leaves_at hcond v (fin_test cc _ v l hm)
    exact ⟨k, hk, leaf_reads (hkc.mono fun b ob hb => m2 hb)⟩
  w_strict (k_steps)
  unfold Hold
  replace N8 := news_dr3 N8
  refine simp_use (simp_ok _ cc) (by k_asm) (by k_asm) rfl (Nat.le_trans (Nat.add_le_add_right (Nat.add_le_add_left hdeep _) _) (Nat.le_of_ble_eq_true rfl)) (Nat.le_trans (Nat.add_le_add_right (Nat.add_le_add_left (Nat.mul_le_mul_left 10 hdeep) _) _) (Nat.le_of_ble_eq_true rfl)) (by k_asm) N8 (hcond.mono fun b ob hb => m2 hb) (by omega) ?_
  intro ls nls h9 tk9 F9 N9 hls
  clear N8 F8 m1 m2 m3
  have ol1 := hls _ (.tail _ (.head _))
  have ol2 := hls _ (.tail _ (.tail _ (.head _)))
  have ol3 := hls _ (.tail _ (.tail _ (.tail _ (.head _))))
  have ol4 := hls _ (.tail _ (.tail _ (.tail _ (.tail _ (.head _)))))
  have olt := hls _ (.head _)
  dsimp only at ol1 ol2 ol3 ol4 olt
  k_sweep
  try dsimp only
  (try clear hops2)
  (try clear hR3)
  (try clear oR4)
  (try clear hfr2)
  (try clear ha1)
  (try clear ha2)
  (try clear hys2)
  (try clear oR2)
  (try clear hfr1)
  (try clear hpo)
  (try clear hpne)
  (try clear hIc)
  (try clear hId)
  (try clear hpns)
  (try clear hpl)
  (try clear hRo)
  (try clear hs1)
  (try clear hs2)
  (try revert codeHd)
  (try revert lifted)
  (try revert hT9)
  (try revert hT8)
  (try revert hkc)
  (try revert hk)
  (try revert k)
  (try revert p25)
  (try revert p24)
  (try revert p23)
  (try revert p22)
  (try revert p21)
  (try revert p20)
  (try revert p19)
  (try revert p18)
  (try revert p17)
  (try revert p16)
  (try revert p15)
  (try revert p14)
  (try revert p13)
  (try revert p12)
  (try revert p11)
  (try revert p10)
  (try revert p9)
  (try revert p8)
  (try revert p7)
  (try revert p6)
  (try revert p5)
  (try revert p4)
  (try revert p3)
  (try revert p2)
  (try revert p1)
  (try revert o5)
  (try revert o4)
  (try revert o3)
  (try revert o2)
  (try revert o1)
  (try revert olt)
  (try revert ol4)
  (try revert ol3)
  (try revert ol2)
  (try revert ol1)
  (try revert m3)
  (try revert m1)
  (try revert m2)
  (try revert hys1)
  (try revert hys2)
  (try revert hcc)
  (try revert oft)
  (try revert of4)
  (try revert of3)
  (try revert of2)
  (try revert of1)
  (try revert oct)
  (try revert oc4)
  (try revert oc3)
  (try revert oc2)
  (try revert oc1)
  (try revert oR1)
  (try revert oR)
  (try revert hsz)
  (try revert hls)
  (try revert N9)
  (try revert F9)
  (try revert tk9)
  (try revert h9)
  (try revert nls)
  (try revert ls)
  (try revert ha2)
  (try revert N8)
  (try revert F8)
  (try revert tk8)
  (try revert h8)
  (try revert na2)
  (try revert a2)
  (try revert ha1)
  (try revert N7)
  (try revert F7)
  (try revert tk7)
  (try revert h7)
  (try revert na1)
  (try revert a1)
  (try revert htab2)
  (try revert hops2)
  (try revert hfr2)
  (try revert oR4)
  (try revert hR3)
  (try revert N6)
  (try revert F6)
  (try revert tk6)
  (try revert h6)
  (try revert R4)
  (try revert R3)
  (try revert tab2)
  (try revert n5')
  (try revert n4')
  (try revert n6')
  (try revert ys')
  (try revert u3')
  (try revert u2')
  (try revert u1')
  (try revert bt')
  (try revert ot')
  (try revert cdx')
  (try revert cx')
  (try revert nr')
  (try revert r0')
  (try revert l5)
  (try revert N5)
  (try revert F5)
  (try revert h5)
  (try revert D1)
  (try revert htab1)
  (try revert hops1)
  (try revert hfr1)
  (try revert oR2)
  (try revert hR1)
  (try revert N4)
  (try revert F4)
  (try revert tk4)
  (try revert h4)
  (try revert R2)
  (try revert R1)
  (try revert tab1)
  (try revert n5)
  (try revert n4)
  (try revert n6)
  (try revert ys)
  (try revert u3)
  (try revert u2)
  (try revert u1)
  (try revert bt)
  (try revert ot)
  (try revert cdx)
  (try revert cx)
  (try revert nr)
  (try revert r0)
  (try revert N3)
  (try revert F3)
  (try revert hd1)
  (try revert hd0)
  (try revert tk3)
  (try revert h3)
  (try revert td)
  (try revert dd)
  (try revert N2)
  (try revert F2)
  (try revert hs2)
  (try revert hs1)
  (try revert hRr)
  (try revert hRo)
  (try revert hdeep)
  (try revert hcond)
  (try revert tk2)
  (try revert h2)
  (try revert cn)
  (try revert ct2)
  (try revert ct1)
  (try revert left')
  (try revert spot')
  (try revert R)
  (try revert cc)
  (try revert cv)
  (try revert hpo)
  (try revert N1)
  (try revert F1)
  (try revert hpne)
  (try revert hpl)
  (try revert hpns)
  (try revert hId)
  (try revert hIc)
  (try revert tk1)
  (try revert h1)
  (try revert pn)
  (try revert pt2)
  (try revert pt1)
  (try revert pns)
  (try revert pcells)
  (try revert oI)
  (try revert pI)
  (try revert pa)
  (try revert codeHd)
  repeat (rename_i x; revert x)
  (try revert tk)
  (try revert tk)
  repeat (rename_i x; revert x)
  exact hP.h
end
theorem fresh_L3b : True ∧ True := by
  k_with_none
  (k_with "binaryOp Pow int int 1" => row_timed "fresh" (fail; (((with_reducible refine Mine.my_pow ?kb1 ?kb2 ?kb3 ?kb4 ?_); (case kb1 => decide); (case kb2 => decide); (case kb3 => first | decide | (with_reducible exact (Mine.pow3_bnd (PySem.W.fmod_lo _ (by decide)) (PySem.W.fmod_hi _ (by decide)) (by assumption) (by assumption)).1) | (with_reducible exact (Mine.pow5_bnd (by assumption) (by assumption)).1)); (case kb4 => first | decide | (with_reducible exact (Mine.pow3_bnd (PySem.W.fmod_lo _ (by decide)) (PySem.W.fmod_hi _ (by decide)) (by assumption) (by assumption)).2) | (with_reducible exact (Mine.pow5_bnd (by assumption) (by assumption)).2)); intro r' hr'))))
  (k_with "m:kroom" => row_timed "fresh" (fail; ((simp only [PyProof.Rows.depth_deeper, PySem.recursionLimit] at *; omega))))
  (k_with "m:zmem" => row_timed "fresh" (fail; (first | with_reducible exact List.Mem.head _ | (with_reducible refine' List.Mem.tail _ ?_; k_extra "m:zmem") | (with_reducible refine mapp_r ?_; k_extra "m:zmem") | (refine mapp_l ?_; assumption))))
  (k_with "m:zcut" => row_timed "fresh" (fail; ((rename _ => zz; first | exact zz.h | (revert zz; k_extra "m:zcut")))))
  (k_with "m:zoff" => row_timed "fresh" (fail; (first | assumption | exact List.forall_mem_nil _ | (refine List.forall_mem_append.mpr ⟨?_, ?_⟩ <;> k_extra "m:zoff") | (refine List.forall_mem_cons.mpr ⟨by k_ne, ?_⟩; k_extra "m:zoff"))))
  w_top off
  first | (walk1; done) | exact ⟨trivial, trivial⟩
section
theorem word_36 : True := by
  (k_with "m:room" => row_timed "fresh" (fail; (((try simp only [depth_deeper, units_deeper, AT_depth, AT_units, Cn.deep]); omega))))
  (k_with "m:ne" => row_timed "fresh" (fail; (first | assumption | (apply Ne.symm; assumption))))
  (k_with "m:all" => row_timed "fresh" (fail; (assumption)))
  trivial
theorem tup_led {g h : Heap} {L t : Addr} {news : List (Addr × Obj)} {vs : Array Value} {n : Nat} (N : News g L h news) (hm : (t, tupOf vs n) ∈ news) : IsTup h t vs := ⟨_, N.get hm, rfl, _, rfl⟩
theorem beg_pos (c : Cn) (wn : Bool) : 1 ≤ begOf c wn := Nat.le_add_right _ _
theorem beg_le {P : Addr → Obj → Prop} {ys : List Value} {c : Cn} {wn : Bool} (h : OpsAt P ys (finOps c wn)) : begOf c wn ≤ ys.toArray.size := by
  rw [List.size_toArray, h.length, fin_len, begOf]; omega
theorem fin_size {P : Addr → Obj → Prop} {ys : List Value} {c : Cn} {wn : Bool} (h : OpsAt P ys (finOps c wn)) (hc : c.deep ≤ 3) : ys.toArray.size ≤ sizeLine := by
  rw [List.size_toArray, h.length]
  have := fin_short (c := c) (wn := wn) (by have := size_le hc; omega)
  simp only [sizeLine]
  omega
theorem word_37 : True := by
  (k_with "subscriptTail Name Slice ref ref" => row_timed "fresh" (fail; (refine' hold_in ?_)))
  (k_with "eval ListComp" => row_timed "fresh" (fail; ((k_dflt (refine' ListComp_TT ?F ?cl ?cell ?kind ?names ?x ?_ ?hs; (case F => k_asm); (case cl => exact rfl); (case cell => decide); (case kind => exact rfl); (case names => decide); (case x => exact rfl); (case hs => exact fun _ => rfl)); try dsimp only))))
  (k_with "subscriptTail 1" => row_timed "fresh" (fail; (((with_reducible show wpAny _ _ (subscriptTail _ _ (Value.ref _) (Value.int _ _)) _ _ _); k_dflt (refine' item_tupleT ?t ?a ?b ?c ?d ?_; (case t => assumption); (case a => decide); (case b => decide); (case c => rfl); (case d => rfl); k_whole)))))
  (k_with "compareOp NotEq ref ref" => row_timed "fresh" (fail; (refine' hold_in ?_)))
  trivial
section
variable {prog : Program} {w : World} {A : Around} {E : Value → Shared → Prop} {s : Shared} {h₀ : Heap} {m : Str → Option Value} {env : Env}
theorem For_rngF {target iter : Expr} {body : List Stmt} {pos : Pos} {Q : Flow → Shared → Prop} (_ : Fr h₀ env.locals s.heap m)
    (h : wpAny (model prog w) A (eval iter env) (fun v s₁ => Hold (RSrc prog w A h₀ env target body Q v s₁)) E s)
    (hs : ∀ x, foldedSetIterable iter env x = pure x) (ht : ∀ it v, letOwnedTupleGo target it v = pure ()) :
    wpAny (model prog w) A (exec (.For target iter body [] pos) env) Q E s := For_rng h hs ht
end
theorem word_38 : True := by
  (k_with "exec For" => row_timed "fresh" (fail; (refine' hold_in ?_)))
  trivial
theorem news_loop {g h : Heap} {L : Addr} {R : List (Addr × Obj)} {a b c d e f g1 i : Addr × Obj} (N : News g L h (a :: b :: c :: d :: e :: f :: g1 :: i :: R)) :
    News g L h (d :: e :: f :: g1 :: i :: c :: R) := news_flat (B := R) [[a], [b], [c], [d], [e], [f], [g1], [i]] [4, 5, 6, 7, 8, 3] 0 N
set_option maxHeartbeats 8000000 in
def cut2 : (P : Prop) ×' (Cut P → cut1.1) := by
  refine ⟨?P, ?main⟩
  case main =>
  intro hP
  dsimp only [cut1]
  (set_option tactic.hygienic false in intros)
  w_strict (k_steps)
  unfold Hold
  rename Fr _ _ _ _ => F1
  rename News _ _ _ _ => N1
  refine slice_tuple_ab (a := 1) F1 N1 (tup_led N1 (by k_mem)) (Nat.le_refl _) (beg_pos _ _) (beg_le hops1) ?_ (by with_unfolding_all rfl) (by intro _; with_unfolding_all rfl) (fin_size hops1 hdeep)
  intro h10 laidT F10 N10 l10
  clear F1 N1
  k_sweep
  try dsimp only
  have hlay := lay_at hops1
  w_strict (k_steps)
  unfold Hold
  rename Fr _ _ _ _ => F1
  rename News _ _ _ _ => N1
  have hlen : ((ys.drop 1).take (begOf cc (dd == 1) - 1)).length ≤ sizeLine := by
    have := fin_size hops1 hdeep
    rw [List.size_toArray] at this
    rw [List.length_take, List.length_drop]
    omega
  refine ⟨_, _, _, _, rfl, rfl, F1, N1, .head _, by rw [List.size_toArray]; exact hlen, fun g => ?_⟩
  refine compRestT_fix (fun i vs => vs = []) ?_ rfl ?_
  · rintro i v vs I oI C oC D m₂ h tk E' hi hp rfl hn hm F9 N9 off ne
    obtain ⟨op, hop, hoa⟩ := hlay.get (by simpa using hp)
    have hkd := lay_kinds (List.mem_of_getElem? hop)
    rcases hkd with ⟨tv, tl, rfl⟩ | ⟨jl, rfl⟩
    · cases hoa with
      | @test a _ _ n2 q1 q2 ha =>
      have mR1 : ∀ q ∈ R1, h.get? q.1 = some q.2 := fun q hq => (N9 q (by simp only [List.mem_cons, List.mem_append]; simp [hq])).1
      have ht : IsTup h a #[.str (Str.ofString "test") q1, tv, .int tl q2] := ⟨_, mR1 _ ha, rfl, _, rfl⟩
      w_strict (k_steps)
      exact LCg.CompEnd.intro (by k_asm) (by k_asm) _ (fun q hq => .tail _ hq) off (.head _) ⟨rfl, by first | rfl | trivial⟩
    · cases hoa with
      | @jump a _ n2 q1 q2 ha =>
      have mR1 : ∀ q ∈ R1, h.get? q.1 = some q.2 := fun q hq => (N9 q (by simp only [List.mem_cons, List.mem_append]; simp [hq])).1
      have ht : IsTup h a #[.str (Str.ofString "jump") q1, .int jl q2] := ⟨_, mR1 _ ha, rfl, _, rfl⟩
      w_strict (k_steps)
      exact LCg.CompEnd.intro (by k_asm) (by k_asm) _ (fun q hq => .tail _ hq) off (.head _) ⟨rfl, by first | rfl | trivial⟩
  · rintro vs rfl
    intro D2 h11 tk11 F11 N11 off11
    (try clear F1 N1)
    simp only [LCg.Off1] at off11
    (try dsimp only)
    w_strict (k_steps)
    unfold Hold
    rename News _ _ _ _ => N1
    refine lists_ne (vs := []) (News.get N1 (.tail _ (.head _))) (News.get N1 (.head _)) (fun _ h => nomatch h) (Nat.lt_of_le_of_lt (Nat.le_of_ble_eq_true rfl) (by decide : 5000 < cLine)) ?_
    replace N1 := news_sub N1 fun q hq => .tail _ (.tail _ hq)
    (try clear F11 N11)
    w_strict (k_steps)
    unfold Hold
    rename Fr _ _ _ _ => F1
    refine ⟨_, _, _, _, rfl, rfl, F1, N1, .head _, by rw [List.size_toArray]; exact hlen, fun g => ?_⟩
    refine compRestT_fix (fun i vs => vs = ((layOps cc (dd == 1)).take i).filterMap Op.tested) ?_ rfl ?_
    · rintro i v vs I oI C oC D m₂ h tk E' hi hp hj hn hm F9 N9 off ne
      obtain ⟨op, hop, hoa⟩ := hlay.get (by simpa using hp)
      have hkd := lay_kinds (List.mem_of_getElem? hop)
      have hsn := tested_snoc hop
      rw [← hj] at hsn
      have mR1 : ∀ q ∈ R1, h.get? q.1 = some q.2 := fun q hq => (N9 q (by simp only [List.mem_cons, List.mem_append]; simp [hq])).1
      rcases hkd with ⟨tv, tl, rfl⟩ | ⟨jl, rfl⟩
      · cases hoa with
        | @test a _ _ n2 q1 q2 ha =>
        have ht : IsTup h a #[.str (Str.ofString "test") q1, tv, .int tl q2] := ⟨_, mR1 _ ha, rfl, _, rfl⟩
        w_strict (k_steps)
        exact LCg.CompEnd.intro F9 N9 _ (fun q hq => hq) off (.head _) ⟨rfl, hsn.symm⟩
      · cases hoa with
        | @jump a _ n2 q1 q2 ha =>
        have ht : IsTup h a #[.str (Str.ofString "jump") q1, .int jl q2] := ⟨_, mR1 _ ha, rfl, _, rfl⟩
        w_strict (k_steps)
        exact LCg.CompEnd.intro F9 N9 _ (fun q hq => hq) off (.head _) ⟨rfl, by rw [hsn]; exact (List.append_nil _).symm⟩
    · rintro vs hvs
      have hvs' : vs = cc.leaves := by
        rw [hvs, List.take_of_length_le (by rw [← hlay.length, List.size_toArray]; exact Nat.le_refl _), lay_tests]
      subst hvs'
      clear hvs
      intro D3 h12 tk12 F12 N12 off12
      (try clear F1 N1)
      simp only [LCg.Off1] at off12
      (try dsimp only)
      w_strict (k_steps)
      unfold Hold
      rename News _ _ _ _ => N1
      have hlv : ∀ v ∈ cc.leaves, ∃ k, k < 4 ∧ Reads h12 v (leafD k) [] := fun v hv => by
        obtain ⟨k, hk, hkc⟩ := leaves_at hcond v hv
        exact ⟨k, hk, leaf_reads (hkc.mono fun b ob hb => (N1 (b, ob) (by simp only [List.mem_cons, List.mem_append]; simp [hb])).1)⟩
      refine lists_ne (vs := cc.leaves) (News.get N1 (.head _)) (News.get N1 (by k_mem)) hlv (Nat.lt_of_le_of_lt (Nat.le_of_ble_eq_true rfl) (by decide : 5000 < cLine)) ?_
      w_strict (k_steps)
      unfold Hold
      rename Fr _ _ _ _ => F1
      refine For_rngF F1 ?_ (by intro _; rfl) (by intro _ _; rfl)
      w_strict (k_steps)
      unfold Hold
      rename Fr _ _ _ _ => F1
      rename News _ _ _ _ => N1
      rename IsRange _ _ _ _ _ _ _ _ => hR
      refine law_loop (c1 := _) (o1 := _) (base := (ls, W.listOf cc.leaves.toArray nls) :: (cx, instObj 46 cdx) :: (cdx, dictOf (codE _ u1 u2 ot bt) n6) :: (ot, tupOf ys.toArray n4) :: (bt, tupOf #[] n5) :: (111, tabObj tab2) :: (R1 ++ R)) rfl F1 (news_loop N1) hR ⟨_, by assumption⟩ ⟨_, by assumption⟩ ⟨_, by assumption⟩ (by k_extra "m:zoff") (by k_extra "m:zoff") (by k_extra "m:zoff") (by k_extra "m:zoff") (by k_extra "m:zoff") ?step ?done
      case step =>
        clear hlv off12 hR F1 N1
        k_extra "m:zcut"
      case done =>
        clear hP
        intro h13 tk13 m13 tab13 B13 hb13 F13 N13
        replace N13 := news_sub (l := [(111, tabObj tab2), (569, tabObj tab13)]) N13 fun q hq => by
          rcases List.mem_cons.mp hq with rfl | hq
          · exact .tail _ (hb13 _ (.tail _ (.tail _ (.tail _ (.tail _ (.tail _ (.head _)))))))
          · rw [List.mem_singleton.mp hq]; exact .head _
        dsimp only
        w_strict (k_steps)
end
theorem fresh_Turn : True ∧ True := by
  k_with_none
  (k_with "binaryOp Pow int int 1" => row_timed "fresh" (fail; (((with_reducible refine Mine.my_pow ?kb1 ?kb2 ?kb3 ?kb4 ?_); (case kb1 => decide); (case kb2 => decide); (case kb3 => first | decide | (with_reducible exact (Mine.pow3_bnd (PySem.W.fmod_lo _ (by decide)) (PySem.W.fmod_hi _ (by decide)) (by assumption) (by assumption)).1) | (with_reducible exact (Mine.pow5_bnd (by assumption) (by assumption)).1)); (case kb4 => first | decide | (with_reducible exact (Mine.pow3_bnd (PySem.W.fmod_lo _ (by decide)) (PySem.W.fmod_hi _ (by decide)) (by assumption) (by assumption)).2) | (with_reducible exact (Mine.pow5_bnd (by assumption) (by assumption)).2)); intro r' hr'))))
  (k_with "m:kroom" => row_timed "fresh" (fail; ((simp only [PyProof.Rows.depth_deeper, PySem.recursionLimit] at *; omega))))
  (k_with "m:zmem" => row_timed "fresh" (fail; (first | with_reducible exact List.Mem.head _ | (with_reducible refine' List.Mem.tail _ ?_; k_extra "m:zmem") | (with_reducible refine mapp_r ?_; k_extra "m:zmem") | (refine mapp_l ?_; assumption))))
  (k_with "m:zcut" => row_timed "fresh" (fail; ((rename _ => zz; first | exact zz.h | (revert zz; k_extra "m:zcut")))))
  (k_with "m:zoff" => row_timed "fresh" (fail; (first | assumption | exact List.forall_mem_nil _ | (refine List.forall_mem_append.mpr ⟨?_, ?_⟩ <;> k_extra "m:zoff") | (refine List.forall_mem_cons.mpr ⟨by k_ne, ?_⟩; k_extra "m:zoff"))))
  w_top off
  first | (walk1; done) | exact ⟨trivial, trivial⟩
section
theorem word_39 : True := by
  (k_with "m:room" => row_timed "fresh" (fail; (((try simp only [depth_deeper, units_deeper, AT_depth, AT_units, Cn.deep]); omega))))
  (k_with "m:ne" => row_timed "fresh" (fail; (first | assumption | (apply Ne.symm; assumption))))
  (k_with "m:all" => row_timed "fresh" (fail; (assumption)))
  (k_with "call ref cons nil 1" => row_timed "fresh" (fail; (((first | show wpAny _ _ (call (Value.ref 454) [_, _, _]) _ _ _ | show wpAny _ _ (call (Value.ref 546) [_, _]) _ _ _ | show wpAny _ _ (call (Value.ref 511) [_, _, _, _]) _ _ _); refine' hold_in ?_))))
  (k_with "eval Lambda 1" => row_timed "fresh" (fail; (refine' hold_in ?_)))
  trivial
theorem fr_M3 {g h : Heap} {L : Addr} {o1 o2 o3 : Option Value} {m0 : Str → Option Value} (F : Fr g L h (M3 o1 o2 o3 m0)) : Fr g L h (fun y => if y = Str.ofString "is_led" then o1 else if y = Str.ofString "word" then o2 else if y = Str.ofString "deeds" then o3 else m0 y) := F
theorem my_pow2 {prog : Program} {w : World} {A : Around} {E : Value → Shared → Prop} {s : Shared} {n : Int} {t u : Tok} {Q : Value → Shared → Prop} (hn : 0 ≤ n) (hn' : n ≤ 4)
    (h : ∀ r : Int, 0 < r → r ≤ 16 → Q (.int r s.toks) { s with toks := s.toks + 1 }) : wpAny (model prog w) A (binaryOp .Pow (.int 2 t) (.int n u)) Q E s := by
  refine pow_int hn ?_ (h _ (Int.pow_pos (by decide)) ?_)
  rotate_left
  · have : n.toNat ≤ 4 := by omega
    have h2 : 2 ^ n.toNat ≤ 2 ^ 4 := Nat.pow_le_pow_right (by decide) this
    have h3 : (2 : Int) ^ n.toNat = ((2 ^ n.toNat : Nat) : Int) := by simp
    rw [h3]; omega
  have hb : Builtin.Int.intBits 2 ≤ 64 := intBits_le_64 (by omega) (by decide)
  have h2 : (Builtin.Int.intBits 2 : Int) * n ≤ 64 * 4 := Int.mul_le_mul (by omega) hn' hn (by omega)
  omega
theorem word_40 : True := by
  (k_with "binaryOp Pow int int 2" => row_timed "fresh" (fail; (((with_reducible refine my_pow2 ?kb1 ?kb2 ?_); (case kb1 => omega); (case kb2 => omega); intro r' hr' hr2'))))
  (k_with "binaryOp FloorDiv int int" => row_timed "fresh" (fail; (((with_reducible refine floordiv_int ?kb1 ?_ (Or.inl (PyProof.noPylong_small ?kb2))); (case kb1 => omega); (case kb2 => omega)))))
  (k_with "eval ListComp" => row_timed "fresh" (fail; ((k_dflt (refine' ListComp_H ?F ?cl ?cell ?kind ?names ?x ?_ ?hs; (case F => k_asm); (case cl => exact rfl); (case cell => decide); (case kind => exact rfl); (case names => decide); (case x => exact rfl); (case hs => exact fun _ => rfl)); try dsimp only))))
  trivial
theorem range_of {prog : Program} {w : World} {A : Around} {h₀ : Heap} {L : Addr} {m : Str → Option Value} {env : Env} {elt : Expr} {x : Str} {scope : Scope} {cl : List (Str × Addr)} {Fin : Shared → List Value → List (Addr × Obj) → Prop} {r : Addr} {t u v : Tok} {news : List (Addr × Obj)} {s₁ : Shared}
    (hh : A.handled = none) (F0 : Fr h₀ L s₁.heap m) (N0 : News h₀ L s₁.heap news) (hr : IsRange s₁.heap r 0 4 1 t u v) (J : Nat → List Value → Prop)
    (step : ∀ (g : Heap) i v ys I oI C oC D m₂ h tk (E' : Value → Shared → Prop), i < 4 → J i ys → LCg.NsObj oC m₂ → m₂ x = some (.int (0 + (i : Nat)) v) → Fr h₀ L h m → News h₀ L h ((I, oI) :: (C, oC) :: (D, LCg.lst ys) :: news) → LCg.Off3 I C D news → ((@Ne Nat I C) ∧ (@Ne Nat I D) ∧ (@Ne Nat C D)) →
      wpAny (model prog w) A (eval elt (compEnvC scope cl C env)) (LCg.CompEnd h₀ L m { s₁ with heap := h, toks := tk } I oI C oC D (LCg.lst ys) (fun _ => True) (fun y news' => news' = news ∧ J (i + 1) (ys ++ [y]))) E' { s₁ with heap := h, toks := tk })
    (h0 : J 0 []) (done : ∀ (g : Heap) ys, J 4 ys → Fin { s₁ with heap := g } ys news) : LCg.CompSrc prog w A h₀ L m env elt x scope cl Fin (.ref r) s₁ :=
  LCg.CompSrc.range hh F0 N0 hr (by decide) rfl (by decide +kernel) fun g => compRest_of (fun i ys nw => nw = news ∧ J i ys) (fun i v ys nw I oI C oC D m₂ h tk E' hi hp hj hn hm F N off ne => by
    obtain ⟨rfl, hj⟩ := hj
    obtain ⟨v', rfl⟩ := hp
    exact step g i v' ys I oI C oC D m₂ h tk E' hi hj hn hm F N off ne) (fun ys nw hj => by obtain ⟨rfl, hj⟩ := hj; exact done g ys hj) 4 0 rfl [] news ⟨rfl, h0⟩
def bools (bs : List Bool) : List Value := bs.map .bool
theorem news_turn {g h : Heap} {L : Addr} {R : List (Addr × Obj)} {a b c d e f p1 p2 p3 p4 p5 p6 : Addr × Obj} {B : List (Addr × Obj)} (N : News g L h (a :: b :: c :: d :: e :: f :: B)) (hB : ∀ q ∈ p1 :: p2 :: p3 :: p4 :: p5 :: p6 :: R, q ∈ B) : News g L h (a :: b :: c :: d :: e :: f :: p1 :: p2 :: p3 :: p4 :: p5 :: B) := news_sub N fun q hq => by
  have k1 := hB p1 (by simp)
  have k2 := hB p2 (by simp)
  have k3 := hB p3 (by simp)
  have k4 := hB p4 (by simp)
  have k5 := hB p5 (by simp)
  simp only [List.mem_cons] at hq ⊢
  rcases hq with h | h | h | h | h | h | h | h | h | h | h | h <;> simp_all
set_option maxHeartbeats 8000000 in
def cut3 : (P : Prop) ×' (Cut P → cut2.1) := by
  refine ⟨?P, ?main⟩
  case main =>
  intro hP
  dsimp only [cut2]
  intro tk x x_1 x_2 x_3 x_4 x_5 x_6 x_7 x_8 x_9 x_10 x_11 x_12 x_13 x_14 x_15 x_16 x_17 x_18 x_19 x_20 x_21 x_22 x_23 x_24 x_25 x_26 x_27 x_28 x_29 x_30 x_31 x_32 x_33 x_34 x_35 x_36 x_37 x_38 x_39 x_40 x_41 x_42 x_43 x_44 x_45 x_46 x_47 x_48 x_49 x_50 x_51 x_52 x_53 x_54 x_55 x_56 x_57 x_58 x_59 x_60 x_61 x_62 x_63 codeHd pa pI oI pcells pns pt1 pt2 pn h1 tk1 cv cc R spot' left' ct1 ct2 cn h2 tk2 hcond hdeep hRr dd td h3 tk3 hd0 hd1 r0 nr cx cdx ot bt u1 u2 u3 ys n6 n4 n5 tab1 R1 R2 h4 tk4 hR1 hops1 D1 h5 l5 r0' nr' cx' cdx' ot' bt' u1' u2' u3' ys' n6' n4' n5' tab2 R3 R4 h6 tk6 a1 na1 h7 tk7 a2 na2 h8 tk8 ls nls h9 tk9 hls hsz oR oR1 oc1 oc2 oc3 oc4 oct hys1 ol1 ol2 ol3 ol4 olt o1 o2 o3 o4 o5 p1 p2 p3 p4 p5 p6 p7 p8 p9 p10 p11 p12 p13 p14 p15 p16 p17 p18 p19 p20 p21 p22 p23 p24 p25 hT8 hT9 lifted codeHd_1 h' o' d' tk_1 h10 laidT l10 hlay h'_1 tk_2 hlen g D2 h11 tk11 off11 l' h'_2 l1 g_1 D3 h12 tk12 F' N' h'_3 tk_3 t₁ u₁ v₁ a i tv I oI_1 h tk_4 E' v1 v2 v3 o2_1 o3_1 o4_1 tab B a_1 a_2 a_3 a_4 a_5 a_6 a_7 a_8 a_9 a_10 a_11 a_12 a_13 a_14 a_15 a_16 a_17 a_18 a_19
  have F1 := fr_M3 (L := x_2.heap.objs.size) a_18
  try dsimp only at F1
  replace a_19 : News (ghostOf x_2.heap [(113, 111), (571, 569)]) x_2.heap.objs.size h _ := a_19
  have N1 := news_turn a_19 a_6
  obtain ⟨w2, a_2⟩ := a_2
  obtain ⟨w3, a_3⟩ := a_3
  obtain ⟨w4, a_4⟩ := a_4
  clear a_18 a_19 F' N' l1 off11 l10 l5 hR1 hRr oR oR1 oct
  w_strict (k_steps)
  unfold Hold
  rename Fr _ _ _ _ => F1
  rename News _ _ _ _ => N1
  rename IsRange _ _ _ _ _ _ _ _ => hR
  refine range_of rfl F1 N1 hR (fun i ys => ys.length = i ∧ ∃ bs, ys = bools bs) ?step ⟨rfl, [], rfl⟩ ?done
  case done =>
    rintro g2 ys9 ⟨hlen9, bs9, rfl⟩
    obtain ⟨b0, b1, b2, b3, rfl⟩ : ∃ b0 b1 b2 b3, bs9 = [b0, b1, b2, b3] := by
      simp only [bools, List.length_map] at hlen9
      match bs9, hlen9 with
      | [b0, b1, b2, b3], _ => exact ⟨b0, b1, b2, b3, rfl⟩
    intro D9 h19 tk19 F19 N19 off19
    simp only [LCg.Off1] at off19
    (try clear F1 N1)
    (try dsimp only)
    w_strict (k_steps)
    unfold Hold
    rename Fr _ _ _ _ => F1
    rename News _ _ _ _ => N1
    clear hR
    k_extra "m:zcut"
  case step =>
    clear hP
    rintro g2 j tv9 ys9 I9 oI9 C9 oC9 D9 m9 h9 tk9 E9 hj ⟨hlen9, bs9, rfl⟩ hn9 hm9 F9 N9 off9 ne9
    w_strict (k_steps)
    exact LCg.CompEnd.intro F9 N9 _ (fun q hq => hq) off9 trivial ⟨rfl, by rw [List.length_append, hlen9]; rfl, bs9 ++ [_], by simp only [bools, List.map_append]; rfl⟩
end
theorem fresh_TurnB : True ∧ True := by
  k_with_none
  (k_with "binaryOp Pow int int 1" => row_timed "fresh" (fail; (((with_reducible refine Mine.my_pow ?kb1 ?kb2 ?kb3 ?kb4 ?_); (case kb1 => decide); (case kb2 => decide); (case kb3 => first | decide | (with_reducible exact (Mine.pow3_bnd (PySem.W.fmod_lo _ (by decide)) (PySem.W.fmod_hi _ (by decide)) (by assumption) (by assumption)).1) | (with_reducible exact (Mine.pow5_bnd (by assumption) (by assumption)).1)); (case kb4 => first | decide | (with_reducible exact (Mine.pow3_bnd (PySem.W.fmod_lo _ (by decide)) (PySem.W.fmod_hi _ (by decide)) (by assumption) (by assumption)).2) | (with_reducible exact (Mine.pow5_bnd (by assumption) (by assumption)).2)); intro r' hr'))))
  (k_with "m:kroom" => row_timed "fresh" (fail; ((simp only [PyProof.Rows.depth_deeper, PySem.recursionLimit] at *; omega))))
  (k_with "m:zmem" => row_timed "fresh" (fail; (first | with_reducible exact List.Mem.head _ | (with_reducible refine' List.Mem.tail _ ?_; k_extra "m:zmem") | (with_reducible refine mapp_r ?_; k_extra "m:zmem") | (refine mapp_l ?_; assumption))))
  (k_with "m:zcut" => row_timed "fresh" (fail; ((rename _ => zz; first | exact zz.h | (revert zz; k_extra "m:zcut")))))
  (k_with "m:zoff" => row_timed "fresh" (fail; (first | assumption | exact List.forall_mem_nil _ | (refine List.forall_mem_append.mpr ⟨?_, ?_⟩ <;> k_extra "m:zoff") | (refine List.forall_mem_cons.mpr ⟨by k_ne, ?_⟩; k_extra "m:zoff"))))
  w_top off
  first | (walk1; done) | exact ⟨trivial, trivial⟩
section
theorem word_41 : True := by
  (k_with "m:room" => row_timed "fresh" (fail; (((try simp only [depth_deeper, units_deeper, AT_depth, AT_units, Cn.deep]); omega))))
  (k_with "m:ne" => row_timed "fresh" (fail; (first | assumption | (apply Ne.symm; assumption))))
  (k_with "m:all" => row_timed "fresh" (fail; (assumption)))
  (k_with "call ref cons nil 1" => row_timed "fresh" (fail; (((first | show wpAny _ _ (call (Value.ref 454) [_, _, _]) _ _ _ | show wpAny _ _ (call (Value.ref 546) [_, _]) _ _ _ | show wpAny _ _ (call (Value.ref 511) [_, _, _, _]) _ _ _); refine' hold_in ?_))))
  (k_with "eval Lambda 1" => row_timed "fresh" (fail; (refine' hold_in ?_)))
  trivial
theorem news_p1 {g h : Heap} {L : Addr} {a b c t d1 d2 d3 d4 e1 e2 e3 e4 e5 : Addr × Obj} {B : List (Addr × Obj)} (N : News g L h (a :: b :: c :: t :: d1 :: d2 :: d3 :: d4 :: e1 :: e2 :: e3 :: e4 :: e5 :: B)) :
    News g L h (t :: ([a, b, c, d1, d2, d3, d4, e1, e2, e3, e4, e5] ++ B)) := news_flat (B := B) [[a], [b], [c], [t], [d1], [d2], [d3], [d4], [e1], [e2], [e3], [e4], [e5]] [4, 1, 2, 3, 5, 6, 7, 8, 9, 10, 11, 12, 13] 0 N
theorem news_p2 {g h : Heap} {L : Addr} {z a b c t d1 d2 d3 d4 e1 e2 e3 e4 e5 : Addr × Obj} {B : List (Addr × Obj)} (N : News g L h (z :: t :: ([a, b, c, d1, d2, d3, d4, e1, e2, e3, e4, e5] ++ B))) :
    News g L h (t :: ([z, a, b, c, d1, d2, d3, d4, e1, e2, e3, e4, e5] ++ B)) := news_flat (B := B) [[z], [t], [a], [b], [c], [d1], [d2], [d3], [d4], [e1], [e2], [e3], [e4], [e5]] [2, 1, 3, 4, 5, 6, 7, 8, 9, 10, 11, 12, 13, 14] 0 N
set_option maxHeartbeats 8000000 in
def cut4 : (P : Prop) ×' (Cut P → cut3.1) := by
  refine ⟨?P, ?main⟩
  case main =>
  intro hP
  dsimp only [cut3]
  intro tk x x_1 x_2 x_3 x_4 x_5 x_6 x_7 x_8 x_9 x_10 x_11 x_12 x_13 x_14 x_15 x_16 x_17 x_18 x_19 x_20 x_21 x_22 x_23 x_24 x_25 x_26 x_27 x_28 x_29 x_30 x_31 x_32 x_33 x_34 x_35 x_36 x_37 x_38 x_39 x_40 x_41 x_42 x_43 x_44 x_45 x_46 x_47 x_48 x_49 x_50 x_51 x_52 x_53 x_54 x_55 x_56 x_57 x_58 x_59 x_60 x_61 x_62 x_63 codeHd pa pI oI pcells pns pt1 pt2 pn h1 tk1 cv cc R spot' left' ct1 ct2 cn h2 tk2 hcond hdeep dd td h3 tk3 hd0 hd1 r0 nr cx cdx ot bt u1 u2 u3 ys n6 n4 n5 tab1 R1 R2 h4 tk4 hops1 D1 h5 r0' nr' cx' cdx' ot' bt' u1' u2' u3' ys' n6' n4' n5' tab2 R3 R4 h6 tk6 a1 na1 h7 tk7 a2 na2 h8 tk8 ls nls h9 tk9 hls hsz oc1 oc2 oc3 oc4 hys1 ol1 ol2 ol3 ol4 olt o1 o2 o3 o4 o5 p1 p2 p3 p4 p5 p6 p7 p8 p9 p10 p11 p12 p13 p14 p15 p16 p17 p18 p19 p20 p21 p22 p23 p24 p25 hT8 hT9 lifted codeHd_1 h' o' d' tk_1 h10 laidT hlay h'_1 tk_2 hlen g D2 h11 tk11 l' h'_2 g_1 D3 h12 tk12 h'_3 tk_3 t₁ u₁ v₁ a i tv I oI_1 h tk_4 E' v1 v2 v3 o2_1 o3_1 o4_1 tab B a_1 a_5 a_6 a_7 a_8 a_9 a_10 a_11 a_12 a_13 a_14 a_15 a_16 a_17 w2 a_2 w3 a_3 w4 a_4 h'_4 o'_1 d'_1 tk_5 h'_5 tk_6 t₁_1 u₁_1 v₁_1 a_18 g2 b0 b1 b2 b3 hlen9 D9 h19 tk19 off19 h'_6 o'_2 d'_2 tk_7 l'_1 h'_7 l1 h'_8 o'_3 F1 N1 d'_3 tk_8
  have bl := allLt_ne l1.2.2.2.2.2.2.2.2.2.2.2.2
  have bd := off1_ne off19.2.2.2.2.2.2.2.2.2.2.2
  refine lam_turn (B := B) (K := Tab1) rfl rfl rfl rfl F1 (news_p1 N1) x_52 codeHd_1 a_5.triples (by simp only [List.cons_append, List.nil_append]; k_extra "m:zoff") (a_5.case rfl rfl (fun _ h => h)) (fun hB hc k => a_5.next rfl rfl hB hc k) rfl ?_
  intro fA kA ctA hA tkA tabA BA FA NA sA gA lA oA cA tA
  clear F1 N1
  have e1 := off_grow gA a_7 (by simp only [List.cons_append, List.nil_append]; k_mem)
  have e2 := off_grow gA a_8 (by simp only [List.cons_append, List.nil_append]; k_mem)
  have e3 := off_grow gA a_9 (by simp only [List.cons_append, List.nil_append]; k_mem)
  have e4 := off_grow gA a_10 (by simp only [List.cons_append, List.nil_append]; k_mem)
  have e5 := off_grow gA a_11 (.head _)
  have e6 := off_grow gA a_12 (by simp only [List.cons_append, List.nil_append]; k_mem)
  have el := off_grow gA bl (by simp only [List.cons_append, List.nil_append]; k_mem)
  have ed := off_grow gA bd (by simp only [List.cons_append, List.nil_append]; k_mem)
  have NA2 := news_p2 NA
  dsimp only [List.cons_append, List.nil_append] at NA lA
  k_lt lA
  dsimp only
  w_strict (k_steps)
  unfold Hold
  refine lam_turn (B := BA) (K := fun _ t b => Tab0 t b) rfl rfl rfl rfl FA NA2 x_52 codeHd_1 tA.triples (by simp only [List.cons_append, List.nil_append]; k_extra "m:zoff") (tA.case rfl rfl (fun _ h => h)) (fun hB hc k => tA.next rfl rfl hB hc k) rfl ?_
  intro fB kB ctB hB tkB tabB BB FB NB sB gB lB oB cB tB
  clear FA NA NA2
  have g1 := off_grow gB e1 (by simp only [List.cons_append, List.nil_append]; k_mem)
  have g2 := off_grow gB e2 (by simp only [List.cons_append, List.nil_append]; k_mem)
  have g3 := off_grow gB e3 (by simp only [List.cons_append, List.nil_append]; k_mem)
  have g4 := off_grow gB e4 (by simp only [List.cons_append, List.nil_append]; k_mem)
  have g5 := off_grow gB e5 (.head _)
  have g6 := off_grow gB e6 (by simp only [List.cons_append, List.nil_append]; k_mem)
  have gl := off_grow gB el (by simp only [List.cons_append, List.nil_append]; k_mem)
  have gd := off_grow gB ed (by simp only [List.cons_append, List.nil_append]; k_mem)
  dsimp only [List.cons_append, List.nil_append] at NB lB
  k_lt lB
  dsimp only
  w_strict (k_steps)
  unfold Hold
  refine deeds_use x_51 x_52 rfl (Nat.le_of_ble_eq_true rfl) (Nat.le_of_ble_eq_true rfl) FB NB ?_
  intro dx ddx td1 td2 td3 td4 ndd hD tkD FD ND lD1 lD2
  clear FB NB
  k_lt lD1
  k_sweep
  try dsimp only
  w_strict (k_steps)
  unfold Hold
  rename Fr _ _ _ _ => F1
  rename News _ _ _ _ => N1
  k_extra "m:zcut"
end
theorem fresh_TurnC : True ∧ True := by
  k_with_none
  (k_with "binaryOp Pow int int 1" => row_timed "fresh" (fail; (((with_reducible refine Mine.my_pow ?kb1 ?kb2 ?kb3 ?kb4 ?_); (case kb1 => decide); (case kb2 => decide); (case kb3 => first | decide | (with_reducible exact (Mine.pow3_bnd (PySem.W.fmod_lo _ (by decide)) (PySem.W.fmod_hi _ (by decide)) (by assumption) (by assumption)).1) | (with_reducible exact (Mine.pow5_bnd (by assumption) (by assumption)).1)); (case kb4 => first | decide | (with_reducible exact (Mine.pow3_bnd (PySem.W.fmod_lo _ (by decide)) (PySem.W.fmod_hi _ (by decide)) (by assumption) (by assumption)).2) | (with_reducible exact (Mine.pow5_bnd (by assumption) (by assumption)).2)); intro r' hr'))))
  (k_with "m:kroom" => row_timed "fresh" (fail; ((simp only [PyProof.Rows.depth_deeper, PySem.recursionLimit] at *; omega))))
  (k_with "m:zmem" => row_timed "fresh" (fail; (first | with_reducible exact List.Mem.head _ | (with_reducible refine' List.Mem.tail _ ?_; k_extra "m:zmem") | (with_reducible refine mapp_r ?_; k_extra "m:zmem") | (refine mapp_l ?_; assumption))))
  (k_with "m:zcut" => row_timed "fresh" (fail; ((rename _ => zz; first | exact zz.h | (revert zz; k_extra "m:zcut")))))
  (k_with "m:zoff" => row_timed "fresh" (fail; (first | assumption | exact List.forall_mem_nil _ | (refine List.forall_mem_append.mpr ⟨?_, ?_⟩ <;> k_extra "m:zoff") | (refine List.forall_mem_cons.mpr ⟨by k_ne, ?_⟩; k_extra "m:zoff"))))
  w_top off
  first | (walk1; done) | exact ⟨trivial, trivial⟩
section
theorem word_42 : True := by
  (k_with "m:room" => row_timed "fresh" (fail; (((try simp only [depth_deeper, units_deeper, AT_depth, AT_units, Cn.deep]); omega))))
  (k_with "m:ne" => row_timed "fresh" (fail; (first | assumption | (apply Ne.symm; assumption))))
  (k_with "m:all" => row_timed "fresh" (fail; (assumption)))
  (k_with "call ref cons nil 1" => row_timed "fresh" (fail; (((first | show wpAny _ _ (call (Value.ref 454) [_, _, _]) _ _ _ | show wpAny _ _ (call (Value.ref 546) [_, _]) _ _ _ | show wpAny _ _ (call (Value.ref 511) [_, _, _, _]) _ _ _); refine' hold_in ?_))))
  (k_with "eval Lambda 1" => row_timed "fresh" (fail; (refine' hold_in ?_)))
  (k_with "eval Name" => row_timed "fresh" (fail; ((k_dflt (refine' nameX_FB ?F ?c ?m ?d ?_ ?a ?b; (case a => rfl); (case b => rfl); (case F => k_asm); (case c => rfl); (case m => k_asm); (case d => k_asm); k_whole)))))
  (k_with "call ref cons nil 2" => row_timed "fresh" (fail; (((first | show wpAny _ _ (call (Value.ref 560) [_, _]) _ _ _ | show wpAny _ _ (call (Value.ref 567) [_, _, _]) _ _ _); refine' hold_in ?_))))
  trivial
theorem news_ll {g h : Heap} {L : Addr} {a b c d e t : Addr × Obj} {R : List (Addr × Obj)} (N : News g L h (a :: b :: c :: d :: e :: t :: R)) :
    News g L h (t :: a :: b :: c :: d :: e :: R) := news_flat (B := R) [[a], [b], [c], [d], [e], [t]] [6, 1, 2, 3, 4, 5] 0 N
set_option maxHeartbeats 8000000 in
def cut5 : (P : Prop) ×' (Cut P → cut4.1) := by
  refine ⟨?P, ?main⟩
  case main =>
  intro hP
  dsimp only [cut4]
  intro tk x x_1 x_2 x_3 x_4 x_5 x_6 x_7 x_8 x_9 x_10 x_11 x_12 x_13 x_14 x_15 x_16 x_17 x_18 x_19 x_20 x_21 x_22 x_23 x_24 x_25 x_26 x_27 x_28 x_29 x_30 x_31 x_32 x_33 x_34 x_35 x_36 x_37 x_38 x_39 x_40 x_41 x_42 x_43 x_44 x_45 x_46 x_47 x_48 x_49 x_50 x_51 x_52 x_53 x_54 x_55 x_56 x_57 x_58 x_59 x_60 x_61 x_62 x_63 codeHd pa pI oI pcells pns pt1 pt2 pn h1 tk1 cv cc R spot' left' ct1 ct2 cn h2 tk2 hcond hdeep dd td h3 tk3 hd0 hd1 r0 nr cx cdx ot bt u1 u2 u3 ys n6 n4 n5 tab1 R1 R2 h4 tk4 hops1 D1 h5 r0' nr' cx' cdx' ot' bt' u1' u2' u3' ys' n6' n4' n5' tab2 R3 R4 h6 tk6 a1 na1 h7 tk7 a2 na2 h8 tk8 ls nls h9 tk9 hls hsz oc1 oc2 oc3 oc4 hys1 ol1 ol2 ol3 ol4 olt o1 o2 o3 o4 o5 p1 p2 p3 p4 p5 p6 p7 p8 p9 p10 p11 p12 p13 p14 p15 p16 p17 p18 p19 p20 p21 p22 p23 p24 p25 hT8 hT9 lifted codeHd_1 h' o' d' tk_1 h10 laidT hlay h'_1 tk_2 hlen g D2 h11 tk11 l' h'_2 g_1 D3 h12 tk12 h'_3 tk_3 t₁ u₁ v₁ a i tv I oI_1 h tk_4 E' v1 v2 v3 o2_1 o3_1 o4_1 tab B a_1 a_5 a_6 a_7 a_8 a_9 a_10 a_11 a_12 a_13 a_14 a_15 a_16 a_17 w2 a_2 w3 a_3 w4 a_4 h'_4 o'_1 d'_1 tk_5 h'_5 tk_6 t₁_1 u₁_1 v₁_1 a_18 g2 b0 b1 b2 b3 hlen9 D9 h19 tk19 off19 h'_6 o'_2 d'_2 tk_7 l'_1 h'_7 l1 h'_8 o'_3 d'_3 tk_8 bl bd fA kA ctA hA tkA tabA BA sA gA oA cA tA e1 e2 e3 e4 e5 e6 el ed lA fB kB ctB hB tkB tabB BB sB gB oB cB tB g1 g2_1 g3 g4 g5 g6 gl gd lB dx ddx td1 td2 td3 td4 ndd hD tkD lD2 lD1 h'_9 F1 N1 tk_9
  have Nll := news_ll N1 _ (.head _)
  have mB : ∀ q ∈ BB, h'_9.get? q.1 = some q.2 := fun q hq => (N1 q (by simp only [List.mem_cons]; simp [hq])).1
  have mb : ∀ q ∈ R1 ++ R, h'_9.get? q.1 = some q.2 := fun q hq => mB _ (sB _ (sA _ (a_6 _ (.tail _ (.tail _ (.tail _ (.tail _ (.tail _ (.tail _ hq)))))))))
  have Nk : ∀ {b : Addr} {o : Obj}, (ghostOf x_2.heap [(113, 111), (571, 569)]).get? b = some o → b ≠ l'_1 := fun e q => by rw [q, Nll.2.2] at e; cases e
  have hFn : ∀ a o o', h'_9.get? a = some o → h'_9.get? a = some o' → o = o' := fun a o o' e e' => by rw [e] at e'; exact Option.some.inj e'
  have hcR : CnAt (fun b ob => h'_9.get? b = some ob) cv cc := hcond.mono fun b ob hb => mb _ (List.mem_append_right _ hb)
  have hoR : OpsAt (fun b ob => h'_9.get? b = some ob) ys (finOps cc (dd == 1)) := hops1.mono fun b ob hb => mb _ (List.mem_append_left _ hb)
  obtain ⟨lg, fuel, hsub, hfu, hrun⟩ := fin_run cc (dd == 1) (trOf (fun b ob => h'_9.get? b = some ob) [b0, b1, b2, b3])
  rw [truth_val hFn hcR] at hrun
  obtain ⟨okA, vsA, tqA, hmA, hdA, hvA⟩ := cA
  obtain ⟨okB, vsB, tqB, hmB, hdB, hvB⟩ := cB
  refine run_use x_51 x_52 rfl (Nat.le_of_ble_eq_true rfl) (Nat.le_of_ble_eq_true rfl) F1 (ll := l'_1) (nl0 := 0) (ys := ys) (fops := finOps cc (dd == 1)) (ok := fun v => ∃ k, CnAt (fun b ob => h'_9.get? b = some ob) v (.leaf v k)) (news_ll N1) ?hoff (News.get N1 (by k_mem)) (News.get N1 (by k_mem)) (News.get N1 (by k_mem)) (News.get N1 (by k_mem)) (News.get N1 (by k_mem)) hoR ?C1 ?C2 ?hok ?hlab ?hlen hrun ?hfu ?hx ?run
  case run =>
    intro tW vsL nL hL tkL FL NL hlog
    obtain ⟨tn1, tn2, rfl⟩ := log_all hlog
    clear hlog hrun F1 N1 Nll mB mb hFn hcR hoR hmA hdA hvA hmB hdB hvB
    k_extra "m:zcut"
  case hoff =>
    clear hP
    have q1 : @LT.lt Nat _ l'_1 ddx := by omega
    have q2 : @LT.lt Nat _ ddx dx := lD2
    have n1 : @Ne Nat dx l'_1 := by omega
    k_extra "m:zoff"
  case hok =>
    clear hP
    intro v9 l9 hm9
    obtain ⟨k9, _, hk9⟩ := leaves_at hcR v9 (fin_test cc (dd == 1) v9 l9 hm9)
    exact ⟨k9, hk9⟩
  case hlab =>
    clear hP
    exact fin_lab cc (dd == 1)
  case hlen =>
    clear hP
    rw [← hoR.length]; omega
  case hfu =>
    clear hP
    omega
  case hx =>
    clear hP
    split <;> decide
  case C1 =>
    clear hP
    refine ⟨⟨⟨_, _, _, _, News.get N1 (by k_mem)⟩, by k_ne⟩, fun d' u' s' hd' hu' hk' vs n hll hlen i9 t9 => ?_⟩
    have nf : fA ≠ l'_1 := by k_ne
    have nc : x_2.heap.objs.size + 1 + 1 + 1 ≠ l'_1 := by k_ne
    refine enterL (K := hd.heap_1 x.params) (binds := [(Str.ofString "one", .int i9 t9)]) [(l'_1, W.listOf vs.toArray n)] x_51 x_52 (fun b o e => hk' _ _ (F1.keep b o e) (Nk e)) (fun q hq => by rw [List.mem_singleton.mp hq]; exact ⟨hll, Nll.2.2⟩) (hk' _ _ (News.get N1 (by k_mem)) nf) ⟨_, _, _, _, rfl, hk' _ _ (mB _ (sB _ hmA)) (gl _ (sB _ hmA)), hdA, hvA⟩ (by simp only [recursionLimit]; omega) rfl (locs rfl) ?_ rfl rfl rfl (by decide)
    intro g2 L2 h2 Kg2 F2 N2 l2 X2 T2 S2
    have hcg2 : g2.get? (x_2.heap.objs.size + 1 + 1 + 1) = some o'_3 := Kg2 _ _ (hk' _ _ (News.get N1 (by k_mem)) nc) (nin1 nc)
    clear F1 N1
    show wpAny _ _ _ _ _ _
    k_fold
    w_strict (k_steps)
    unfold Hold
    refine noted_use X2 T2 rfl (by k_extra "m:room") (by k_extra "m:room") F2 N2 hlen ?_
    intro tr9 n9 h9 tk9 F9 N9
    show BodyEnd _ _ _ _ _
    exact ⟨_, _, rfl, F9.keep, ⟨_, rfl⟩, _, News.get N9 (.head _)⟩
  case C2 =>
    clear hP
    refine ⟨⟨⟨_, _, _, _, News.get N1 (by k_mem)⟩, by k_ne⟩, fun d' u' s' hd' hu' hk' vs n hll hlen v9 hv9 => ?_⟩
    obtain ⟨k9, hk9⟩ := hv9
    rw [trOf_leaf hFn hk9]
    have nf : fB ≠ l'_1 := by k_ne
    have nc : x_2.heap.objs.size + 1 + 1 + 1 ≠ l'_1 := by k_ne
    have nt : x_2.heap.objs.size + 1 + 1 + 1 + 1 ≠ l'_1 := by k_ne
    have nd : D9 ≠ l'_1 := by k_ne
    have hk8 : CnAt (fun b ob => s'.heap.get? b = some ob) v9 (.leaf v9 k9) := hk9.monoT fun a vs n e => hk' _ _ e (PySem.W.X.ne_objs _ _ _ _ e Nll.1 rfl)
    refine enterL (K := hd.heap_1 x.params) (binds := [(Str.ofString "one", v9)]) [(l'_1, W.listOf vs.toArray n)] x_51 x_52 (fun b o e => hk' _ _ (F1.keep b o e) (Nk e)) (fun q hq => by rw [List.mem_singleton.mp hq]; exact ⟨hll, Nll.2.2⟩) (hk' _ _ (News.get N1 (by k_mem)) nf) ⟨_, _, _, _, rfl, hk' _ _ (mB _ hmB) (gl _ hmB), hdB, hvB⟩ (by simp only [recursionLimit]; omega) rfl (locs rfl) ?_ rfl rfl rfl (by decide)
    intro g2 L2 h2 Kg2 F2 N2 l2 X2 T2 S2
    have hcg2 : g2.get? (x_2.heap.objs.size + 1 + 1 + 1) = some o'_3 := Kg2 _ _ (hk' _ _ (News.get N1 (by k_mem)) nc) (nin1 nc)
    have hcg3 : g2.get? (x_2.heap.objs.size + 1 + 1 + 1 + 1) = some o'_2 := Kg2 _ _ (hk' _ _ (News.get N1 (by k_mem)) nt) (nin1 nt)
    have hcg4 : g2.get? D9 = some (LCg.lst (bools [b0, b1, b2, b3])) := Kg2 _ _ (hk' _ _ (News.get N1 (by k_mem)) nd) (nin1 nd)
    have hk7 : CnAt (fun b ob => h2.get? b = some ob) v9 (.leaf v9 k9) := hk8.monoT fun a vs n e => F2.keep _ _ (Kg2 _ _ e (nin1 (PySem.W.X.ne_objs _ _ _ _ e hll rfl)))
    clear F1 N1
    show wpAny _ _ _ _ _ _
    k_fold
    w_strict (k_steps)
    unfold Hold
    refine asked_use X2 T2 rfl (by k_extra "m:room") (by k_extra "m:room") F2 N2 hlen hk7 (F2.keep _ _ hcg4) nd ?_
    intro n9 h9 tk9 F9 N9
    show BodyEnd _ _ _ _ _
    exact ⟨_, _, rfl, F9.keep, rfl, _, News.get N9 (.head _)⟩
end
theorem fresh_TurnD : True ∧ True := by
  k_with_none
  (k_with "binaryOp Pow int int 1" => row_timed "fresh" (fail; (((with_reducible refine Mine.my_pow ?kb1 ?kb2 ?kb3 ?kb4 ?_); (case kb1 => decide); (case kb2 => decide); (case kb3 => first | decide | (with_reducible exact (Mine.pow3_bnd (PySem.W.fmod_lo _ (by decide)) (PySem.W.fmod_hi _ (by decide)) (by assumption) (by assumption)).1) | (with_reducible exact (Mine.pow5_bnd (by assumption) (by assumption)).1)); (case kb4 => first | decide | (with_reducible exact (Mine.pow3_bnd (PySem.W.fmod_lo _ (by decide)) (PySem.W.fmod_hi _ (by decide)) (by assumption) (by assumption)).2) | (with_reducible exact (Mine.pow5_bnd (by assumption) (by assumption)).2)); intro r' hr'))))
  (k_with "m:kroom" => row_timed "fresh" (fail; ((simp only [PyProof.Rows.depth_deeper, PySem.recursionLimit] at *; omega))))
  (k_with "m:zmem" => row_timed "fresh" (fail; (first | with_reducible exact List.Mem.head _ | (with_reducible refine' List.Mem.tail _ ?_; k_extra "m:zmem") | (with_reducible refine mapp_r ?_; k_extra "m:zmem") | (refine mapp_l ?_; assumption))))
  (k_with "m:zcut" => row_timed "fresh" (fail; ((rename _ => zz; first | exact zz.h | (revert zz; k_extra "m:zcut")))))
  (k_with "m:zoff" => row_timed "fresh" (fail; (first | assumption | exact List.forall_mem_nil _ | (refine List.forall_mem_append.mpr ⟨?_, ?_⟩ <;> k_extra "m:zoff") | (refine List.forall_mem_cons.mpr ⟨by k_ne, ?_⟩; k_extra "m:zoff"))))
  w_top off
  first | (walk1; done) | exact ⟨trivial, trivial⟩
section
theorem word_43 : True := by
  (k_with "m:room" => row_timed "fresh" (fail; (((try simp only [depth_deeper, units_deeper, AT_depth, AT_units, Cn.deep]); omega))))
  (k_with "m:ne" => row_timed "fresh" (fail; (first | assumption | (apply Ne.symm; assumption))))
  (k_with "m:all" => row_timed "fresh" (fail; (assumption)))
  (k_with "call ref cons nil 1" => row_timed "fresh" (fail; (((first | show wpAny _ _ (call (Value.ref 454) [_, _, _]) _ _ _ | show wpAny _ _ (call (Value.ref 546) [_, _]) _ _ _ | show wpAny _ _ (call (Value.ref 511) [_, _, _, _]) _ _ _); refine' hold_in ?_))))
  (k_with "eval Lambda 1" => row_timed "fresh" (fail; (refine' hold_in ?_)))
  (k_with "call ref cons nil 2" => row_timed "fresh" (fail; (((first | show wpAny _ _ (call (Value.ref 546) [_, _]) _ _ _); refine' hold_in ?_))))
  (k_with "compareOp Eq bool bool" => row_timed "fresh" (fail; (refine' hold_in ?_)))
  trivial
theorem item_lastC {prog : Program} {w : World} {A : Around} {E : Value → Shared → Prop} {s : Shared} {value slice : PySem.Expr} {l : Addr} {vi : List Value} {v x : Value} {u : Tok} {Q : Value → Shared → Prop} (hl : s.heap.IsList l (v :: (vi ++ [x])).toArray) (h : Q x s)
    (hs : subscripted slice false (.ref l) (.int (-1) u) = operate [.ref l, .int (-1) u] (getItem (.ref l) (.int (-1) u)) := by with_unfolding_all rfl) (hg : ∀ r, letTemporaryGo value (.ref l) r = pure () := by intro _; with_unfolding_all rfl) :
    wpAny (model prog w) A (subscriptTail value slice (.ref l) (.int (-1) u)) Q E s := item_last (vi := v :: vi) hl h hs hg
theorem ld_list {g h : Heap} {L l : Addr} {news : List (Addr × Obj)} {vs : List Value} {n : Nat} (N : News g L h news) (hm : (l, W.listOf vs.toArray n) ∈ news) : h.IsList l vs.toArray := ⟨_, N.get hm, rfl, _, rfl⟩
theorem word_44 : True := by
  (k_with "subscriptTail Name UnaryOp ref int" => row_timed "fresh" (fail; ((k_dflt (refine' item_lastC ?l ?_; (case l => exact ld_list (by k_asm) (by k_mem)); k_whole)))))
  trivial
theorem len_listC {prog : Program} {w : World} {A : Around} {E : Value → Shared → Prop} {s : Shared} {l : Addr} {vs : List Value} {n : Nat} {Q : Value → Shared → Prop} (hl : s.heap.IsList l vs.toArray) (hn : vs.length = n) (hfit : n ≤ 1000)
    (h : Q (.int (n : Int) (s.toks + 1)) { s with toks := s.toks + 1 + 1 }) : wpAny (model prog w) A (call (.builtin "len") [.ref l]) Q E s := by
  refine call_len_list hl (by rw [List.size_toArray, hn]; omega) ?_
  rw [List.size_toArray, hn]
  exact h
theorem log_len {v x : Value} {vi : List Value} : (v :: (vi ++ [x])).length = vi.length + 2 := by simp
theorem word_45 : True := by
  (k_with "call builtin:len 1" => row_timed "fresh" (fail; (((refine' len_listC ?l ?n ?f ?_; (case l => exact ld_list (by k_asm) (by k_mem)); (case n => first | exact log_len | exact rfl); (case f => omega))))))
  trivial
theorem ListComp_TL {prog : Program} {w : World} {A : Around} {E : Value → Shared → Prop} {s : Shared} {h₀ : Heap} {L : Addr} {m : Str → Option Value} {env : Env} {ct elt iter : Expr} {x : Str} {px : Pos} {scope : Scope} {cl : List (Str × Addr)} {pos : Pos} {Q : Value → Shared → Prop} (F₀ : Fr h₀ L s.heap m)
    (hclos : closureFor scope env = pure cl) (hcell : ∀ y ∈ scope.names, y.2 ≠ .cell) (hkind : scope.kind = .function)
    (hnames : ∀ y ∈ scope.names, y.2 = .local → scope.names.lookup y.1 = some .local) (hx : scope.names.lookup x = some .local)
    (h : wpAny (model prog w) A (eval iter env) (fun v s₁ => Hold (LCt.CompSrcT prog w A h₀ L m env ct elt x scope cl (fun s₂ => LCg.FinE h₀ L m s₂ Q) v s₁)) E s)
    (hs : ∀ x, foldedSetIterable iter env x = pure x) :
    wpAny (model prog w) A (eval (.ListComp elt [⟨.Name x px, iter, [ct], 0⟩] scope pos) env) Q E s := LCt.ListComp_T F₀ hclos hcell hkind hnames hx h hs
theorem word_46 : True := by
  (k_with "eval ListComp" => row_timed "fresh" (fail; ((k_dflt (refine' ListComp_TL ?F ?cl ?cell ?kind ?names ?x ?_ ?hs; (case F => k_asm); (case cl => exact rfl); (case cell => decide); (case kind => exact rfl); (case names => decide); (case x => exact rfl); (case hs => exact fun _ => rfl)); try dsimp only))))
  (k_with "subscriptTail Name Slice ref ref" => row_timed "fresh" (fail; (refine' hold_in ?_)))
  (k_with "compareOp NotIn" => row_timed "fresh" (fail; (refine' hold_in ?_)))
  (k_with "compareOp NotEq ref ref" => row_timed "fresh" (fail; (refine' hold_in ?_)))
  trivial
theorem fr_back {g h : Heap} {L : Addr} {a b c v1 v2 v3 : Option Value} {m0 : Str → Option Value} (F : Fr g L h (fun y => if y = Str.ofString "is_led" then a else if y = Str.ofString "word" then b else if y = Str.ofString "deeds" then c else if y = Str.ofString "is_led" then v1 else if y = Str.ofString "word" then v2 else if y = Str.ofString "deeds" then v3 else m0 y)) : Fr g L h (M3 a b c m0) := by
  have e : M3 a b c m0 = fun y => if y = Str.ofString "is_led" then a else if y = Str.ofString "word" then b else if y = Str.ofString "deeds" then c else if y = Str.ofString "is_led" then v1 else if y = Str.ofString "word" then v2 else if y = Str.ofString "deeds" then v3 else m0 y := (M3_step (o1 := v1) (o2 := v2) (o3 := v3)).symm
  rw [e]; exact F
theorem news_end {g h : Heap} {L : Addr} {a1 a2 a3 a4 a5 a6 a7 t a9 a10 i c4 c3 c2 c1 e1 e2 e3 e4 e5 : Addr × Obj} {B : List (Addr × Obj)} (N : News g L h (a1 :: a2 :: a3 :: a4 :: a5 :: a6 :: a7 :: t :: a9 :: a10 :: i :: c4 :: c3 :: c2 :: c1 :: e1 :: e2 :: e3 :: e4 :: e5 :: B)) :
    News g L h (i :: t :: c4 :: c3 :: c2 :: c1 :: B) := news_flat (B := B) [[a1], [a2], [a3], [a4], [a5], [a6], [a7], [t], [a9], [a10], [i], [c4], [c3], [c2], [c1], [e1], [e2], [e3], [e4], [e5]] [11, 8, 12, 13, 14, 15] 0 N
set_option maxHeartbeats 8000000 in
theorem turn4 : cut5.1 := by
  dsimp only [cut5]
  intro tk x x_1 x_2 x_3 x_4 x_5 x_6 x_7 x_8 x_9 x_10 x_11 x_12 x_13 x_14 x_15 x_16 x_17 x_18 x_19 x_20 x_21 x_22 x_23 x_24 x_25 x_26 x_27 x_28 x_29 x_30 x_31 x_32 x_33 x_34 x_35 x_36 x_37 x_38 x_39 x_40 x_41 x_42 x_43 x_44 x_45 x_46 x_47 x_48 x_49 x_50 x_51 x_52 x_53 x_54 x_55 x_56 x_57 x_58 x_59 x_60 x_61 x_62 x_63 codeHd pa pI oI pcells pns pt1 pt2 pn h1 tk1 cv cc R spot' left' ct1 ct2 cn h2 tk2 hcond hdeep dd td h3 tk3 hd0 hd1 r0 nr cx cdx ot bt u1 u2 u3 ys n6 n4 n5 tab1 R1 R2 h4 tk4 hops1 D1 h5 r0' nr' cx' cdx' ot' bt' u1' u2' u3' ys' n6' n4' n5' tab2 R3 R4 h6 tk6 a1 na1 h7 tk7 a2 na2 h8 tk8 ls nls h9 tk9 hls hsz oc1 oc2 oc3 oc4 hys1 ol1 ol2 ol3 ol4 olt o1 o2 o3 o4 o5 p1 p2 p3 p4 p5 p6 p7 p8 p9 p10 p11 p12 p13 p14 p15 p16 p17 p18 p19 p20 p21 p22 p23 p24 p25 hT8 hT9 lifted codeHd_1 h' o' d' tk_1 h10 laidT hlay h'_1 tk_2 hlen g D2 h11 tk11 l' h'_2 g_1 D3 h12 tk12 h'_3 tk_3 t₁ u₁ v₁ a i tv I oI_1 h tk_4 E' v1 v2 v3 o2_1 o3_1 o4_1 tab B a_1 a_5 a_6 a_7 a_8 a_9 a_10 a_11 a_12 a_13 a_14 a_15 a_16 a_17 w2 a_2 w3 a_3 w4 a_4 h'_4 o'_1 d'_1 tk_5 h'_5 tk_6 t₁_1 u₁_1 v₁_1 a_18 g2 b0 b1 b2 b3 hlen9 D9 h19 tk19 off19 h'_6 o'_2 d'_2 tk_7 l'_1 h'_7 l1 h'_8 o'_3 d'_3 tk_8 bl bd fA kA ctA hA tkA tabA BA sA gA oA tA e1 e2 e3 e4 e5 e6 el ed lA fB kB ctB hB tkB tabB BB sB gB oB tB g1 g2_1 g3 g4 g5 g6 gl gd lB dx ddx td1 td2 td3 td4 ndd hD tkD lD2 lD1 h'_9 tk_9 Nk lg fuel hsub hfu okA vsA tqA okB vsB tqB tW nL hL tkL FL tn1 tn2 NL
  have mR : ∀ q ∈ R1 ++ R, q ∈ BB := fun q hq => sB _ (sA _ (a_6 _ (.tail _ (.tail _ (.tail _ (.tail _ (.tail _ (.tail _ hq))))))))
  have hl1 := hsub.length_le
  have hl2 := leaves_len cc
  w_strict (k_steps)
  unfold Hold
  rename Fr _ _ _ _ => F1
  rename News _ _ _ _ => N1
  refine tru_use (tru_ok _ cc) x_51 x_52 rfl (Nat.le_trans (Nat.add_le_add_right (Nat.add_le_add_left hdeep _) _) (Nat.le_of_ble_eq_true rfl)) (Nat.le_trans (Nat.add_le_add_right (Nat.add_le_add_left (Nat.mul_le_mul_left 10 hdeep) _) _) (Nat.le_of_ble_eq_true rfl)) F1 N1 (b0 := b0) (b1 := b1) (b2 := b2) (b3 := b3) (hcond.mono fun b ob hb => News.get N1 (by simp only [List.mem_cons]; simp [mR _ (List.mem_append_right _ hb)])) (News.get N1 (by k_mem)) ?_
  intro hV tkV FV NV
  clear F1 N1
  w_strict (k_steps)
  unfold Hold
  refine eq_bool ?_
  by_cases hled : Cn.val [b0, b1, b2, b3] cc = (dd == 1)
  · simp only [if_pos hled] at FV NV
    simp only [hled, beq_self_eq_true]
    w_strict (k_steps)
    unfold Hold
    rename Fr _ _ _ _ => F1
    rename News _ _ _ _ => N1
    refine kms_slice_lit (zs := lg) F1 N1 (ld_list N1 (by k_mem)) (.int _ _) (.int _ _) mid_pick ?_ (by with_unfolding_all rfl) (by intro _; with_unfolding_all rfl) (by rw [List.size_toArray, log_len]; simp only [sizeLine]; omega)
    intro D8 h8 F8 N8 l8
    clear F1 N1
    k_lt l8
    refine LCt.CompSrcT.ledger rfl F8 N8 (.head _) (by rw [List.size_toArray]; simp only [sizeLine]; omega) ?_
    intro g8
    refine compRestT_fix (fun i vs => vs = []) ?_ rfl ?_
    · rintro i8 v8 vs8 I8 oI8 C8 oC8 E8 m8 h8 tk8 E8 hi8 hp8 rfl hn8 hm8 F9 N9 off8 ne8
      have hv8 : v8 ∈ cc.leaves := hsub.subset (List.mem_of_getElem? (by simpa using hp8))
      obtain ⟨k8, hk8, hc8⟩ := leaves_at hcond v8 hv8
      obtain ⟨a8, rfl⟩ : ∃ a, v8 = .ref a := by cases hc8; exact ⟨_, rfl⟩
      have hlv : ∀ v ∈ cc.leaves, ∃ k, k < 4 ∧ Reads h8 v (leafD k) [] := fun v hv => by
        obtain ⟨k, hk, hkc⟩ := leaves_at hcond v hv
        exact ⟨k, hk, leaf_reads (hkc.mono fun b ob hb => (N9 (b, ob) (by simp only [List.mem_cons]; simp [mR _ (List.mem_append_right _ hb)])).1)⟩
      clear F8 N8
      w_strict (k_steps)
      unfold Hold
      refine leaf_notIn (vs := cc.leaves) (News.get N9 (by k_mem)) hlv hv8 (Nat.lt_of_le_of_lt (Nat.le_of_ble_eq_true rfl) (by decide : 5000 < cLine)) ?_
      w_strict (k_steps)
      exact LCg.CompEnd.intro F9 N9 _ (fun q hq => hq) off8 (.inr ⟨_, .head _, rfl, _, rfl⟩) ⟨rfl, rfl⟩
    · rintro vs8 rfl
      intro D2 h11 tk11 F11 N11 off11
      (try clear F8 N8)
      simp only [LCg.Off1] at off11
      (try dsimp only)
      w_strict (k_steps)
      unfold Hold
      rename News _ _ _ _ => N1
      refine lists_ne (vs := []) (News.get N1 (.tail _ (.head _))) (News.get N1 (.head _)) (fun _ h => nomatch h) (Nat.lt_of_le_of_lt (Nat.le_of_ble_eq_true rfl) (by decide : 5000 < cLine)) ?_
      w_strict (k_steps)
      rename Fr _ _ _ _ => F1
      exact ⟨rfl, _, _, _, _, rfl, fr_back F1, news_end N1, by k_extra "m:zoff", ⟨_, _, _, o'_1, o'_3, o'_2, tabB, BB, rfl, rfl, ⟨_, d'_1⟩, ⟨_, d'_3⟩, ⟨_, d'_2⟩, tB, fun q hq => sB _ (sA _ (a_6 _ hq)), g1, g2_1, g3, g4, g5⟩⟩
  · simp only [if_neg hled] at FV NV
    simp only [beq_eq_false_iff_ne.mpr hled]
    w_strict (k_steps)
    unfold Hold
    rename Fr _ _ _ _ => F1
    rename News _ _ _ _ => N1
    refine kms_slice_lit (zs := lg) F1 N1 (ld_list N1 (by k_mem)) (.int _ _) (.int _ _) mid_pick ?_ (by with_unfolding_all rfl) (by intro _; with_unfolding_all rfl) (by rw [List.size_toArray, log_len]; simp only [sizeLine]; omega)
    intro D8 h8 F8 N8 l8
    clear F1 N1
    k_lt l8
    refine LCt.CompSrcT.ledger rfl F8 N8 (.head _) (by rw [List.size_toArray]; simp only [sizeLine]; omega) ?_
    intro g8
    refine compRestT_fix (fun i vs => vs = []) ?_ rfl ?_
    · rintro i8 v8 vs8 I8 oI8 C8 oC8 E8 m8 h8 tk8 E8 hi8 hp8 rfl hn8 hm8 F9 N9 off8 ne8
      have hv8 : v8 ∈ cc.leaves := hsub.subset (List.mem_of_getElem? (by simpa using hp8))
      obtain ⟨k8, hk8, hc8⟩ := leaves_at hcond v8 hv8
      obtain ⟨a8, rfl⟩ : ∃ a, v8 = .ref a := by cases hc8; exact ⟨_, rfl⟩
      have hlv : ∀ v ∈ cc.leaves, ∃ k, k < 4 ∧ Reads h8 v (leafD k) [] := fun v hv => by
        obtain ⟨k, hk, hkc⟩ := leaves_at hcond v hv
        exact ⟨k, hk, leaf_reads (hkc.mono fun b ob hb => (N9 (b, ob) (by simp only [List.mem_cons]; simp [mR _ (List.mem_append_right _ hb)])).1)⟩
      clear F8 N8
      w_strict (k_steps)
      unfold Hold
      refine leaf_notIn (vs := cc.leaves) (News.get N9 (by k_mem)) hlv hv8 (Nat.lt_of_le_of_lt (Nat.le_of_ble_eq_true rfl) (by decide : 5000 < cLine)) ?_
      w_strict (k_steps)
      exact LCg.CompEnd.intro F9 N9 _ (fun q hq => hq) off8 (.inr ⟨_, .head _, rfl, _, rfl⟩) ⟨rfl, rfl⟩
    · rintro vs8 rfl
      intro D2 h11 tk11 F11 N11 off11
      (try clear F8 N8)
      simp only [LCg.Off1] at off11
      (try dsimp only)
      w_strict (k_steps)
      unfold Hold
      rename News _ _ _ _ => N1
      refine lists_ne (vs := []) (News.get N1 (.tail _ (.head _))) (News.get N1 (.head _)) (fun _ h => nomatch h) (Nat.lt_of_le_of_lt (Nat.le_of_ble_eq_true rfl) (by decide : 5000 < cLine)) ?_
      w_strict (k_steps)
      rename Fr _ _ _ _ => F1
      exact ⟨rfl, _, _, _, _, rfl, fr_back F1, news_end N1, by k_extra "m:zoff", ⟨_, _, _, o'_1, o'_3, o'_2, tabB, BB, rfl, rfl, ⟨_, d'_1⟩, ⟨_, d'_3⟩, ⟨_, d'_2⟩, tB, fun q hq => sB _ (sA _ (a_6 _ hq)), g1, g2_1, g3, g4, g5⟩⟩
end
end Mine
theorem PySem.Challenge.cw_pq0617_01_holds : PySem.Challenge.rw_pq0617_01.Holds :=
  Mine.cut1.2 ⟨Mine.cut2.2 ⟨Mine.cut3.2 ⟨Mine.cut4.2 ⟨Mine.cut5.2 ⟨Mine.turn4⟩⟩⟩⟩⟩

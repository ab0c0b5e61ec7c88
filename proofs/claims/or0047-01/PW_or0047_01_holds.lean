import PyProof.Rows.All
import Wide.All
import OpenK.AllK
import Wide.FinOn
import Lean
import PySem.Challenge.RW_or0047_01
open PySem PySem.W PyProof.Rows PySem.Calls PySem.Spec
set_option Elab.async false
set_option maxRecDepth 100000
set_option maxHeartbeats 8000000
local macro_rules | `(tactic| walk_at $s:str) => `(tactic| k_extra $s)
local macro_rules | `(tactic| k_ne) => `(tactic| (refine neN ?_; (try dsimp only); first | with_reducible assumption | exact Ne.symm (by with_reducible assumption) | exact Nat.ne_of_lt (by with_reducible assumption) | exact Nat.ne_of_gt (by with_reducible assumption) | omega))
-- deps: 
namespace Mine
inductive Ex3 {α0 α1 α2 : Type} (P : α0 → α1 → α2 → Prop) : Prop
  | mk (a0 : α0) (a1 : α1) (a2 : α2) : P a0 a1 a2 → Ex3 P
inductive Ex4 {α0 α1 α2 α3 : Type} (P : α0 → α1 → α2 → α3 → Prop) : Prop
  | mk (a0 : α0) (a1 : α1) (a2 : α2) (a3 : α3) : P a0 a1 a2 a3 → Ex4 P
inductive Ex5 {α0 α1 α2 α3 α4 : Type} (P : α0 → α1 → α2 → α3 → α4 → Prop) : Prop
  | mk (a0 : α0) (a1 : α1) (a2 : α2) (a3 : α3) (a4 : α4) : P a0 a1 a2 a3 a4 → Ex5 P
inductive Ex6 {α0 α1 α2 α3 α4 α5 : Type} (P : α0 → α1 → α2 → α3 → α4 → α5 → Prop) : Prop
  | mk (a0 : α0) (a1 : α1) (a2 : α2) (a3 : α3) (a4 : α4) (a5 : α5) : P a0 a1 a2 a3 a4 a5 → Ex6 P
inductive Ex7 {α0 α1 α2 α3 α4 α5 α6 : Type} (P : α0 → α1 → α2 → α3 → α4 → α5 → α6 → Prop) : Prop
  | mk (a0 : α0) (a1 : α1) (a2 : α2) (a3 : α3) (a4 : α4) (a5 : α5) (a6 : α6) : P a0 a1 a2 a3 a4 a5 a6 → Ex7 P
inductive Ex8 {α0 α1 α2 α3 α4 α5 α6 α7 : Type} (P : α0 → α1 → α2 → α3 → α4 → α5 → α6 → α7 → Prop) : Prop
  | mk (a0 : α0) (a1 : α1) (a2 : α2) (a3 : α3) (a4 : α4) (a5 : α5) (a6 : α6) (a7 : α7) : P a0 a1 a2 a3 a4 a5 a6 a7 → Ex8 P
inductive Ex9 {α0 α1 α2 α3 α4 α5 α6 α7 α8 : Type} (P : α0 → α1 → α2 → α3 → α4 → α5 → α6 → α7 → α8 → Prop) : Prop
  | mk (a0 : α0) (a1 : α1) (a2 : α2) (a3 : α3) (a4 : α4) (a5 : α5) (a6 : α6) (a7 : α7) (a8 : α8) : P a0 a1 a2 a3 a4 a5 a6 a7 a8 → Ex9 P
inductive Ex10 {α0 α1 α2 α3 α4 α5 α6 α7 α8 α9 : Type} (P : α0 → α1 → α2 → α3 → α4 → α5 → α6 → α7 → α8 → α9 → Prop) : Prop
  | mk (a0 : α0) (a1 : α1) (a2 : α2) (a3 : α3) (a4 : α4) (a5 : α5) (a6 : α6) (a7 : α7) (a8 : α8) (a9 : α9) : P a0 a1 a2 a3 a4 a5 a6 a7 a8 a9 → Ex10 P
inductive Ex11 {α0 α1 α2 α3 α4 α5 α6 α7 α8 α9 α10 : Type} (P : α0 → α1 → α2 → α3 → α4 → α5 → α6 → α7 → α8 → α9 → α10 → Prop) : Prop
  | mk (a0 : α0) (a1 : α1) (a2 : α2) (a3 : α3) (a4 : α4) (a5 : α5) (a6 : α6) (a7 : α7) (a8 : α8) (a9 : α9) (a10 : α10) : P a0 a1 a2 a3 a4 a5 a6 a7 a8 a9 a10 → Ex11 P
inductive Ex23 {α0 α1 α2 α3 α4 α5 α6 α7 α8 α9 α10 α11 α12 α13 α14 α15 α16 α17 α18 α19 α20 α21 α22 : Type} (P : α0 → α1 → α2 → α3 → α4 → α5 → α6 → α7 → α8 → α9 → α10 → α11 → α12 → α13 → α14 → α15 → α16 → α17 → α18 → α19 → α20 → α21 → α22 → Prop) : Prop
  | mk (a0 : α0) (a1 : α1) (a2 : α2) (a3 : α3) (a4 : α4) (a5 : α5) (a6 : α6) (a7 : α7) (a8 : α8) (a9 : α9) (a10 : α10) (a11 : α11) (a12 : α12) (a13 : α13) (a14 : α14) (a15 : α15) (a16 : α16) (a17 : α17) (a18 : α18) (a19 : α19) (a20 : α20) (a21 : α21) (a22 : α22) : P a0 a1 a2 a3 a4 a5 a6 a7 a8 a9 a10 a11 a12 a13 a14 a15 a16 a17 a18 a19 a20 a21 a22 → Ex23 P
end Mine

-- deps: 
namespace Mine
section
open PySem.W
/-- the top's run in one piece: what stands behind it is asked at once, its state is never written out -/
theorem leftO_one {p q : Program} {loose : List Str} {Xt : Shared → Bool} {α : Type} {Yf : Shared → α} {Ya : World → α} {N m₀ M1 M2 M3 M4 n₀ : Nat} {g0 : Bool} {H₀ Ha : Params → Heap} {T0 : Params → BT} {gs₀ ga gT : Array GenState} {d₀ da dT : Drawn} {k₀ ka kT : Nat} {life : Life} {ann : Option Value} {b : List Stmt} {env : Env} {c : Code} {pos0 posb pose q0 : Pos}
    (hc : c = .body b env)
    (opened : ∀ w : World, (fencedOpening treeTable p w N).map (fun s => (s.heap, s.gens, s.drawn, s.toks)) = some (H₀ w.params, gs₀, d₀, k₀))
    (size : ∀ w : World, ((H₀ w.params).isNs mainGlobals && gs₀.size == 0, (H₀ w.params).objs.size, (H₀ w.params).nsMap mainGlobals "__annotations__") = (true, m₀, ann))
    (pre : ∀ (w : World) (os : OsState), topGo treeTable p w m₀ ann M1 ⟨H₀ w.params, gs₀, d₀, k₀, os⟩ (topStub p) = some (⟨Ha w.params, ga, da, ka, os⟩, ⟨denote treeTable c, c, pos0, [topFrame q0]⟩))
    (block : ∀ (w : World) (os : OsState), segRun treeTable p w m₀ ann 1 M2 ⟨Ha w.params, ga, da, ka, os⟩ (blockOf b env c pos0 [topFrame q0]) = some (.next, SharedT.abs ⟨T0 w.params, n₀, life, gT, dT, kT, os⟩, c, posb))
    (rest : ∀ (w : World) (os : OsState), (segRunT treeTable p w m₀ ann 1 M3 ⟨T0 w.params, n₀, life, gT, dT, kT, os⟩ (piecesOf b env c posb [topFrame q0])).map (fun r => (r.1, r.2.2, (topRun treeTable p w m₀ ann M4 r.2.1.abs ⟨doneF .next, c, pose, [topFrame q0]⟩).map fun s =>
        ((staticsOk (importedModules p.main.body) (H₀ w.params) s.heap && namesBound p s.heap && gensDone s && laidKept (H₀ w.params) s.heap), openSeen q loose (importedModules p.main.body) Xt g0 s))) = some (.next, (c, pose), some (true, openGood q loose)))
    (rest2 : ∀ (w : World) (os : OsState), (segRunT treeTable p w m₀ ann 1 M3 ⟨T0 w.params, n₀, life, gT, dT, kT, os⟩ (piecesOf b env c posb [topFrame q0])).map (fun r => (topRun treeTable p w m₀ ann M4 r.2.1.abs ⟨doneF .next, c, pose, [topFrame q0]⟩).map Yf) = some (some (Ya w)))
    (le : Nat.ble (M1 + (M2 + (M3 + M4))) N = true) : LeftO p q loose Xt Yf Ya N g0 := fun w => by
  obtain ⟨⟨h, gs, d, k, os⟩, e, e'⟩ := Option.map_eq_some_iff.mp (opened w)
  obtain ⟨rfl, rfl, rfl, rfl⟩ : h = H₀ w.params ∧ gs = gs₀ ∧ d = d₀ ∧ k = k₀ := by simpa using e'
  obtain ⟨z1, z2, z3⟩ : _ ∧ _ ∧ _ := by simpa only [Prod.mk.injEq] using size w
  obtain ⟨⟨f, sT, c', p'⟩, hs, hr⟩ := Option.map_eq_some_iff.mp (rest w os)
  simp only [Prod.mk.injEq] at hr
  obtain ⟨rfl, ⟨rfl, rfl⟩, hr⟩ := hr
  obtain ⟨r, ht, hl⟩ := Option.map_eq_some_iff.mp hr
  obtain ⟨l1, l2⟩ : _ ∧ _ := by simpa only [Prod.mk.injEq] using hl
  have l3 : Yf r = Ya w := by
    have h2 := rest2 w os
    rw [hs, Option.map_some, ht, Option.map_some] at h2
    exact Option.some.inj (Option.some.inj h2)
  have run3 := piece_app (l := b) (rest := []) (segRun_of hs) (piece_nil ht)
  rw [List.append_nil] at run3
  have run2 := piece_block (block w os) run3
  rw [← hc] at run2
  have run := topRun_mono (N - (M1 + (M2 + (M3 + M4)))) _ _ _ _ (go_top (pre w os) run2)
  rw [show M1 + (M2 + (M3 + M4)) + (N - (M1 + (M2 + (M3 + M4)))) = N by have := Nat.le_of_ble_eq_true le; omega] at run
  have t : topFrom treeTable p w N ⟨H₀ w.params, gs, d, k, os⟩ = some r := by
    unfold topFrom
    dsimp only
    rw [z1, z2, z3, run]
    show (match staticsOk (importedModules p.main.body) (H₀ w.params) r.heap && namesBound p r.heap && gensDone r && laidKept (H₀ w.params) r.heap with | true => _ | false => _) = _
    rw [l1]
  unfold openEnds
  rw [e]
  show (topFrom treeTable p w N _).map _ = _
  rw [t]
  exact congrArg some (Prod.ext l2 l3)
end
end Mine

-- deps: H0
namespace Mine
open PySem.W
abbrev pg : Program := PySem.Challenge.rw_or0047_01.row.toRowW.1
/-- the program without the statements that the view leaves out -/
def hv : Program := view pg [0, 2, 3, 4, 6, 8, 9, 10, 11, 12, 13, 14, 15, 16, 18, 19, 21, 22, 23, 24, 25, 27, 28, 29, 30, 31, 32, 34, 36, 37, 38, 39, 41, 42, 43, 44]
def hLoose : List Str := [Str.ofString "PostError", Str.ofString "CHARSETS"]
def hLit : List (Str × WData) := [(Str.ofString "CHARSETS", .tuple [.str (Str.ofString "us-ascii"), .str (Str.ofString "iso-8859-1"), .str (Str.ofString "utf-8")])]
def hEnv : Env := { scope := pg.main.scope, locals := mainNs, globals := mainNs, cells := [], code := .ref 13, frame := some 14 }
def hCode : Code := .body (behindTheImports pg) hEnv
def oTup : Params → Obj := fun _ => { cls := .type "tuple", data := .seq #[] }
def oTab : Params → Obj := fun _ => { cls := .none, data := .fields #[] }
def oCode : Params → Obj := fun _ => { cls := .type "code", data := .fields #[.str (Str.ofString "<module>") 182, .str (Str.ofString "<module>") 183, .str (Str.ofString "/claim/cut.py") 184, .int 1 0, .int 0 0, .int 0 0, .int 0 0, .int 0 0, .ref 11, .bool false, .int 181 0, .ref 12, .none, .none, .none, .none, .int 185 0, .int 1 0, .str (Str.ofString "/claim/cut.py") 186] }
def oFrame : Params → Obj := fun _ => { cls := .type "frame", slots := #[some (.ref 13), some (.ref 3), some (.ref 3), none, some (.str (Str.ofString "__main__") 164), none, some (.ref 0)] }
noncomputable def hHeap : Params → Heap := fun P => { objs := #[boot_o_0 P, boot_o_1 P, boot_o_2 P, boot_o_3 P, boot_o_4 P, boot_o_5 P, boot_o_6 P, boot_o_7 P, boot_o_8 P, boot_o_9 P, boot_o_10 P, oTup P, oTab P, oCode P, oFrame P] }
noncomputable def hTree : Params → BT := fun P => (.node (boot_o_0 P) (.node (boot_o_1 P) (.node (boot_o_3 P) (.node (boot_o_7 P) .nil .nil) (.node (oTup P) .nil .nil)) (.node (boot_o_5 P) (.node (boot_o_9 P) .nil .nil) (.node (oCode P) .nil .nil))) (.node (boot_o_2 P) (.node (boot_o_4 P) (.node (boot_o_8 P) .nil .nil) (.node (oTab P) .nil .nil)) (.node (boot_o_6 P) (.node (boot_o_10 P) .nil .nil) (.node (oFrame P) .nil .nil))))
theorem hOpened : ∀ w : World, (fencedOpening treeTable pg w 4970).map (fun s => (s.heap, s.gens, s.drawn, s.toks)) = some (boot_heap w.params, #[], boot_drawn, boot_toks) :=
  boot_open (by kernel_rfl) (by decide +kernel) (fun s => by kernel_rfl)
theorem hSize : ∀ w : World, ((boot_heap w.params).isNs mainGlobals && (#[] : Array GenState).size == 0, (boot_heap w.params).objs.size, (boot_heap w.params).nsMap mainGlobals "__annotations__") = (true, 11, some (Value.ref 6)) := by
  intro w
  kernel_rfl
theorem hPre : ∀ (w : World) (os : OsState), topGo treeTable pg w 11 (some (Value.ref 6)) 12 ⟨boot_heap w.params, #[], boot_drawn, boot_toks, os⟩ (topStub pg) = some (⟨hHeap w.params, #[], {}, 187, os⟩, ⟨denote treeTable hCode, hCode, { line := 0, col := 0, endLine := 0, endCol := 0 }, [topFrame { line := 0, col := 0, endLine := 0, endCol := 0 }]⟩) := by
  intro w os
  kernel_rfl
theorem hBlock : ∀ (w : World) (os : OsState), segRun treeTable pg w 11 (some (Value.ref 6)) 1 1 ⟨hHeap w.params, #[], {}, 187, os⟩ (blockOf (behindTheImports pg) hEnv hCode { line := 0, col := 0, endLine := 0, endCol := 0 } [topFrame { line := 0, col := 0, endLine := 0, endCol := 0 }]) = some (.next, SharedT.abs ⟨hTree w.params, 15, {}, #[], {}, 187, os⟩, hCode, { line := 0, col := 0, endLine := 0, endCol := 0 }) := by
  intro w os
  kernel_rfl
end Mine

-- deps: H1
namespace Mine
open PySem.W
/-- the top's run, and what is seen of its end (the written part is asked for in the head) -/
theorem hRest : ∀ (w : World) (os : OsState), (segRunT treeTable pg w 11 (some (Value.ref 6)) 1 2500 ⟨hTree w.params, 15, {}, #[], {}, 187, os⟩ (piecesOf (behindTheImports pg) hEnv hCode { line := 0, col := 0, endLine := 0, endCol := 0 } [topFrame { line := 0, col := 0, endLine := 0, endCol := 0 }])).map
    (fun r => (r.1, r.2.2, (topRun treeTable pg w 11 (some (Value.ref 6)) 2 r.2.1.abs ⟨doneF .next, hCode, { line := 176, col := 0, endLine := 208, endCol := 73 }, [topFrame { line := 0, col := 0, endLine := 0, endCol := 0 }]⟩).map fun s =>
      ((staticsOk (importedModules pg.main.body) (boot_heap w.params) s.heap && namesBound pg s.heap && gensDone s && laidKept (boot_heap w.params) s.heap), openSeen hv hLoose (importedModules pg.main.body) (fun s => xlAt hv hLit s && recOk (RowW.records PySem.Challenge.rw_or0047_01.row.toRowW) s) true s))) =
    some (.next, (hCode, { line := 176, col := 0, endLine := 208, endCol := 73 }), some (true, openGood hv hLoose)) := by
  intro w os
  rw [PySem.W.Fast.te10110043849684766642, PySem.W.Fast.te14364793385576792824, PySem.W.Fast.te14082659384304107361, PySem.W.Fast.te5923862056798008813, PySem.W.Fast.te4187177175401517315]
  kernel_rfl
end Mine

-- deps: H2
namespace Mine
local macro_rules | `(tactic| o_law) => `(tactic| refine holds_law (by decide +kernel) fun said => ?_)
local macro_rules | `(tactic| o_head $H) => `(tactic| (
  apply holds_open (q := Mine.hv) (loose := Mine.hLoose) (Xt := fun s => xlAt Mine.hv Mine.hLit s && recOk (RowW.records PySem.Challenge.rw_or0047_01.row.toRowW) s) (XP := XL Mine.hv Mine.hLit) (Yf := Hook.obs $H) (Ya := Hook.val $H) (YP := Hook.says $H) (N := 4970) ?left (Hook.of $H) (Hook.keeps $H) (fun s e => xl_of s (Bool.and_eq_true_iff.mp e).1) XL.keeps (by rfl) (by rfl) (by rfl) (fun s e => recFacts_of (Bool.and_eq_true_iff.mp e).2) (by rfl) (by first | assumption | decide +kernel) (by decide +kernel) ⟨rfl, rfl, rfl, rfl, rfl, by decide +kernel⟩
  case left =>
    refine Mine.leftO_one (c := Mine.hCode) rfl Mine.hOpened Mine.hSize Mine.hPre Mine.hBlock Mine.hRest ?_ (by decide +kernel)
    intro w os
    rw [PySem.W.Fast.te10110043849684766642, PySem.W.Fast.te14364793385576792824, PySem.W.Fast.te14082659384304107361]
    kernel_rfl))
open_top hd for PySem.Challenge.rw_or0047_01
end Mine

-- deps: E0
namespace Mine
section
variable {prog : Program} {w : World} {A : Around} {E : Value → Shared → Prop} {s : Shared} {h₀ : Heap} {L : Addr} {m : Str → Option Value} {env : Env}

/-- a place where the walk stops: what is asked there is shown by hand -/
def Hold (P : Prop) : Prop := P
theorem Hold.of {P : Prop} (h : P) : Hold P := h
theorem Hold.out {P : Prop} (h : Hold P) : P := h

/-- what a value hands out, sign by sign: its iterator is one new object -/
def Src (prog : Program) (w : World) (A : Around) (xv : Value) (n : Nat) (P : Nat → Value → Prop) : Prop :=
  ∀ (s₁ : Shared) (Q : Value → Shared → Prop) (E : Value → Shared → Prop),
    (∀ (o : Obj) (St : Nat → Heap → Prop), o.isFreed = false → Walks prog w A s₁.heap.objs.size [s₁.heap.objs.size] [s₁.heap.objs.size] n P St →
      (∀ i h, St i h → ∃ o, h.get? s₁.heap.objs.size = some o) → (∀ i h h' o, St i h → h.get? s₁.heap.objs.size = some o → h'.get? s₁.heap.objs.size = some o → St i h') →
      St 0 (s₁.heap.push o) → Q (.ref s₁.heap.objs.size) { s₁ with heap := s₁.heap.push o }) → wpAny (model prog w) A (pyIter xv) Q E s₁

theorem src_bytes {b : Array UInt8} {t : Tok} (hh : A.handled = none) : Src prog w A (.bytes b t) b.size (fun i v => ∃ c u, b[i]? = some c ∧ v = .int (c.toNat : Int) u) := by
  intro s₁ Q E h
  refine KBw.pyIter_bytes (h _ (fun i h => KBw.IsBytesIter h s₁.heap.objs.size b t i) rfl (KBw.walks hh _ b t) (fun i h st => ?_) (fun i h h' o st e e' => ?_) ⟨_, Heap.get?_push_size _ rfl, rfl, rfl⟩)
  · obtain ⟨o, e, _⟩ := st
    exact ⟨o, e⟩
  · obtain ⟨o', q, r⟩ := st
    rw [e] at q; cases q
    exact ⟨o, e', r⟩

theorem src_str {x : Str} {t : Tok} (hh : A.handled = none) : Src prog w A (.str x t) x.cps.size (SignAt x) := by
  intro s₁ Q E h
  cases ha : x.cps.all (· < 128)
  · refine wpAny_pyIter_wide ha (h _ (fun i h => h.IsStrIter s₁.heap.objs.size "str_iterator" x t i) rfl (Walks.strWide hh _ x t) (fun i h st => ?_) (fun i h h' o st e e' => ?_) ⟨_, Heap.get?_push_size _ rfl, rfl, rfl⟩)
    · obtain ⟨o, e, _⟩ := st
      exact ⟨o, e⟩
    · obtain ⟨o', q, r⟩ := st
      rw [e] at q; cases q
      exact ⟨o, e', r⟩
  · refine wpAny_pyIter_ascii ha (h _ (fun i h => h.IsStrIter s₁.heap.objs.size "str_ascii_iterator" x t i) rfl (Walks.strAscii hh _ x t) (fun i h st => ?_) (fun i h h' o st e e' => ?_) ⟨_, Heap.get?_push_size _ rfl, rfl, rfl⟩)
    · obtain ⟨o, e, _⟩ := st
      exact ⟨o, e⟩
    · obtain ⟨o', q, r⟩ := st
      rw [e] at q; cases q
      exact ⟨o, e', r⟩

/-- an element's value is told, and nothing that stands has changed -/
def ElOk (h₀ : Heap) (L : Addr) (m : Str → Option Value) (s₁ : Shared) (led : List (Addr × Obj)) (G : Value → Prop) (y : Value) (s₂ : Shared) : Prop :=
  G y ∧ ∃ h' tk', s₂ = { s₁ with heap := h', toks := tk' } ∧ Fr h₀ L h' m ∧ News h₀ L h' led

theorem comp_T {elt iter : Expr} {x : Str} {px : Pos} {scope : Scope} {cl : List (Str × Addr)} {pos : Pos} {Q : Value → Shared → Prop} (_F₀ : Fr h₀ L s.heap m)
    (hclos : closureFor scope env = pure cl) (hcell : ∀ y ∈ scope.names, y.2 ≠ .cell) (hkind : scope.kind = .function)
    (hnames : ∀ y ∈ scope.names, y.2 = .local → scope.names.lookup y.1 = some .local) (hx : scope.names.lookup x = some .local)
    (h : wpAny (model prog w) A (eval iter env) (fun xv s₁ => Hold (Ex4 fun (n : Nat) (P : Nat → Value → Prop) (news : List (Addr × Obj)) (g : Nat → Value → Prop) =>
      Src prog w A xv n P ∧ Fr h₀ L s₁.heap m ∧ News h₀ L s₁.heap news ∧ n ≤ sizeLine ∧
      (∀ i v I oI C oC D m₂ ys h tk (E' : Value → Shared → Prop), i < n → P i v → LCg.NsObj oC m₂ → m₂ x = some v → Fr h₀ L h m → News h₀ L h ((I, oI) :: (C, oC) :: (D, LCg.lst ys) :: news) → LCg.Off3 I C D news → ((@Ne Nat I C) ∧ (@Ne Nat I D) ∧ (@Ne Nat C D)) →
        wpAny (model prog w) A (eval elt (compEnvC scope cl C env)) (ElOk h₀ L m s₁ ((I, oI) :: (C, oC) :: (D, LCg.lst ys) :: news) (g i)) E' { s₁ with heap := h, toks := tk }) ∧
      (∀ D ys h tk, ys.length = n → (∀ i y, ys[i]? = some y → g i y) → Fr h₀ L h m → News h₀ L h ((D, LCg.lst ys) :: news) → LCg.Off1 D news → Q (.ref D) { s₁ with heap := h, toks := tk }))) E s)
    (hs : ∀ x, foldedSetIterable iter env x = pure x := by intro _; rfl) :
    wpAny (model prog w) A (eval (.ListComp elt [⟨.Name x px, iter, [], 0⟩] scope pos) env) Q E s := by
  rw [eval_ListComp]
  refine wpAny_comprehension_free (use := none) rfl hs hclos hkind hnames (wpAny_mono h (fun xv s₁ h₁ => ?_) fun _ _ e => e)
  obtain ⟨n, P, news, g, hsrc, F, N, hsz, turn, fin⟩ := Hold.out h₁
  refine hsrc s₁ _ _ fun o St hof W hIo hSt st0 => ?_
  have up : ∀ b o', s₁.heap.get? b = some o' → (s₁.heap.push o).get? b = some o' := fun b o' e => Heap.get?_push_of_some _ e
  have key : ∀ (j i : Nat) (ys : List Value), i + j = n → ys.length = i → (∀ k y, ys[k]? = some y → g k y) →
      LCg.CompRest prog w A h₀ L m env elt x scope cl { s₁ with heap := s₁.heap.push o } (fun _ => True) P
        (fun ys' nw => ys'.length = n ∧ (∀ k y, ys'[k]? = some y → g k y) ∧ nw = news) j i ys news := by
    intro j
    induction j with
    | zero =>
      intro i ys hi hy hg
      exact LCg.CompRest.zero ⟨by omega, hg, rfl⟩
    | succ j ih =>
      intro i ys hi hy hg
      refine LCg.CompRest.succ ?_
      intro v I oI C oC D m₂ h tk E' hv hC hx' F' N' off ne
      refine wpAny_mono (turn i v I oI C oC D m₂ ys h tk E' (by omega) hv hC hx' F' N' off ne) (fun y s₂ hq => ?_) fun _ _ e => e
      obtain ⟨hgy, h', tk', rfl, F₂, N₂⟩ := hq
      refine ⟨h', tk', news, rfl, F₂, N₂, off, trivial, ih (i + 1) _ (by omega) (by simp [hy]) fun k y' e => ?_⟩
      rcases Nat.lt_trichotomy k ys.length with hk | hk | hk
      · rw [List.getElem?_append_left hk] at e
        exact hg k y' e
      · subst hk
        simp at e
        subst e
        rw [hy]; exact hgy
      · rw [List.getElem?_eq_none (by rw [List.length_append, List.length_singleton]; omega)] at e
        cases e
  refine LCg.block_U (S := fun _ => True) (Fin := fun ys' nw => ys'.length = n ∧ (∀ k y, ys'[k]? = some y → g k y) ∧ nw = news) W hsz hIo (fun i h h' o' nw st e e' _ _ _ => hSt i h h' o' st e e') hcell hkind hx st0 (fun b hb => ?_) (F.keeps up) (N.grown up) (Nat.ne_of_lt F.ns.lt) (next_is_new F) (fun p hp => Nat.ne_of_lt (Heap.lt_size (N p hp).1)) trivial (key n 0 [] (by omega) rfl (by simp)) ?_
  · rw [List.mem_singleton.mp hb]
    show s₁.heap.objs.size < (s₁.heap.push o).objs.size
    rw [Heap.size_push]; exact Nat.lt_succ_self _
  · intro D C h' tk m' ys news' F' N' o1 hn hC₀ hD₀ hCL hDL hCD offC hfin
    obtain ⟨hl, hg, rfl⟩ := hfin
    refine ⟨m', hn, fun h'' hs'' => fin D ys h'' tk hl hg (F'.change hs'' hCL hC₀) (fun p hp => ?_) o1⟩
    refine ⟨hs''.extBut _ _ ?_ (N' p hp).1, (N' p hp).2⟩
    rcases List.mem_cons.mp hp with rfl | hp
    · exact Ne.symm hCD
    · exact offC p hp
end
end Mine
namespace Mine
theorem strsAre_of {f : Nat → Str} : ∀ {l : List Nat} {ys : List Value}, ys.length = l.length → (∀ (i : Nat) (y : Value), ys[i]? = some y → ∃ (c : Nat) (t : Tok), l[i]? = some c ∧ y = Value.str (f c) t) → StrsAre ys (l.map f)
  | [], [], _, _ => .nil
  | [], _ :: _, h, _ => by simp at h
  | _ :: _, [], h, _ => by simp at h
  | c :: l, y :: ys, h, g => by
    obtain ⟨c', t, e, rfl⟩ := g 0 y rfl
    simp at e
    subst e
    exact .cons _ t (strsAre_of (by simpa using h) fun i y e => by
      obtain ⟨c', t, e', q⟩ := g (i + 1) y (by simpa using e)
      exact ⟨c', t, by simpa using e', q⟩)
theorem fold_signs (sep : Str) (hs : sep.cps = #[]) : ∀ (l : List Nat) (a : Array Nat), (l.map fun c => (⟨#[c]⟩ : Str)).foldl (fun acc p => acc ++ sep.cps ++ p.cps) a = a ++ l.toArray
  | [], a => by simp
  | c :: l, a => by
    rw [List.map_cons, List.foldl_cons, fold_signs sep hs l, hs]
    apply Array.ext'
    simp
theorem join_signs (sep : Str) (hs : sep.cps = #[]) (l : List Nat) : Txt.join sep (l.map fun c => (⟨#[c]⟩ : Str)) = ⟨l.toArray⟩ := by
  show (Builtin.Str.glued sep _) = _
  unfold Builtin.Str.glued
  cases l with
  | nil => rfl
  | cons c l =>
    show (⟨(l.map fun c => (⟨#[c]⟩ : Str)).foldl (fun acc p => acc ++ sep.cps ++ p.cps) #[c]⟩ : Str) = _
    rw [fold_signs sep hs]
    congr 1
    apply Array.ext'
    simp
theorem signs_weight (f : Nat → Nat) (l : List Nat) (h : l.length ≤ 10000) : ((l.map fun c => (⟨#[f c]⟩ : Str)).map (·.length)).sum + (l.map fun c => (⟨#[f c]⟩ : Str)).length ≤ 1048576 := by
  have e : ((l.map fun c => (⟨#[f c]⟩ : Str)).map (·.length)).sum = l.length := by
    clear h
    induction l with
    | nil => rfl
    | cons c l ih => simp only [List.map_cons, List.sum_cons, List.length_cons, ih]; show 1 + l.length = _; omega
  rw [e, List.length_map]
  omega
end Mine
namespace Mine
/-- a call of a plain def, its parameters named -/
theorem enter_def {prog : Program} {w : World} {A A₀ : Around} {E : Value → Shared → Prop} {s : Shared} {K : Frag} {L : Addr} {h₀ base : Heap} {m mg mb : Str → Option Value} {news : List (Addr × Obj)} {p : Program} {loose : List Str} {mean : ExcName → Option Value} {Q : Value → Shared → Prop}
    {env : Env} {outer : List Env} {name qual : Str} {params : Arguments} {body : List Stmt} {scope : Scope} {dV kV doc pm cdv ct oc : Value} {an od : Option Addr} {osl : Array (Option Value)} {f : Addr} {vs : List Value} (ns : List Str)
    (B : Below A₀ base outer h₀) (F : Fr h₀ L s.heap m) (X₀ : K.In h₀) (N : News h₀ L s.heap news) (T : Top p loose mean mg mb h₀) (hA : A.frames = some (env :: outer)) (hf : env.frame = some L) (hke : env.scope.kind = .function)
    (ho : K.lookup f = some ⟨oc, od, .func (fnOf name qual params body scope dV kV doc pm an cdv ct), osl⟩) (hcd : codeIn K cdv qual = true) (hroom : A.depth < recursionLimit)
    (hbind : BindsTo s (fnOf name qual params body scope dV kV doc pm an cdv ct) ⟨vs, []⟩ (ns.zip vs)) (hloc : ∀ y ∈ ns.zip vs, scope.names.lookup y.1 = some .local)
    (h : ∀ g L' h₁, Fr h₀ L g m → Fr g L' h₁ (fun y => (ns.zip vs).reverse.lookup y) → News g L' h₁ news → Below A base (env :: outer) g → K.In g → Top p loose mean mg mb g →
      wpAny (model prog w) (A.deeper (envOf qual scope L' f cdv)) (execs body (envOf qual scope L' f cdv))
        (fun fl s' => LeaveK h₀ L m g (fun r s' => match r with | .ok (.ret v) => Q v s' | .ok _ => False | .error e => E e s') (match fl with | .ret v => v | _ => .none) s')
        (fun e s' => wpAny (model prog w) (A.deeper (envOf qual scope L' f cdv)) (leaving (envOf qual scope L' f cdv) e) (fun _ s'' => E e s'') (fun e' s'' => E e' s'') s')
        { s with heap := h₁, toks := s.toks + (ns.zip vs).length })
    (hco : scope.isCoroutine = false) (hgen : scope.isGenerator = false) (hk : scope.kind = .function)
    (hcell : ∀ x ∈ scope.names, x.2 ≠ .cell) : wpAny (model prog w) A (call (.ref f) vs) Q E s :=
  wpAny_call (code_def B F X₀ N T hA hf hke ho hcd hroom hbind hloc h hco hgen hk hcell)
end Mine

-- deps: 
namespace Mine
section
open Builtin
variable {prog : Program} {w : World} {M : Model} {A : Around} {E : Value → Shared → Prop} {s : Shared} {b c : Array UInt8} {t u v x : Tok} {i j : Int}
theorem slot_find : Slot "bytes" "find" "bytes.find" :=
  .of (owner := "bytes") (n := "find") (by rw [typeLookup_type, builtinLookup_eq_fast]; kernel_rfl) (by decide +kernel) (by decide +kernel) (by decide +kernel)
    (by first | exact .inl (by decide +kernel) | exact .inr (by decide +kernel)) (by rw [isSubtype_type]; kernel_rfl)
theorem type_find : typeOf (.builtin "bytes.find") = pure (.type "method_descriptor") := by show builtinType _ = _; rw [builtinType_eq_fast]; kernel_rfl
theorem entry_find : entryFor table "bytes.find" = some Builtin.«bytes.find» := entryFor_of_tree (by kernel_rfl)
theorem args_find (a b c d : Value) : argsOk "bytes.find" ⟨[a, b, c, d], []⟩ := by unfold argsOk; kernel_rfl
theorem slot_strip : Slot "bytes" "strip" "bytes.strip" :=
  .of (owner := "bytes") (n := "strip") (by rw [typeLookup_type, builtinLookup_eq_fast]; kernel_rfl) (by decide +kernel) (by decide +kernel) (by decide +kernel)
    (by first | exact .inl (by decide +kernel) | exact .inr (by decide +kernel)) (by rw [isSubtype_type]; kernel_rfl)
theorem type_strip : typeOf (.builtin "bytes.strip") = pure (.type "method_descriptor") := by show builtinType _ = _; rw [builtinType_eq_fast]; kernel_rfl
theorem entry_strip : entryFor table "bytes.strip" = some Builtin.«bytes.strip» := entryFor_of_tree (by kernel_rfl)
theorem args_strip (a b : Value) : argsOk "bytes.strip" ⟨[a, b], []⟩ := by unfold argsOk; kernel_rfl
theorem slot_join : Slot "bytes" "join" "bytes.join" :=
  .of (owner := "bytes") (n := "join") (by rw [typeLookup_type, builtinLookup_eq_fast]; kernel_rfl) (by decide +kernel) (by decide +kernel) (by decide +kernel)
    (by first | exact .inl (by decide +kernel) | exact .inr (by decide +kernel)) (by rw [isSubtype_type]; kernel_rfl)
theorem type_join : typeOf (.builtin "bytes.join") = pure (.type "method_descriptor") := by show builtinType _ = _; rw [builtinType_eq_fast]; kernel_rfl
theorem entry_join : entryFor table "bytes.join" = some Builtin.«bytes.join» := entryFor_of_tree (by kernel_rfl)
theorem args_join (a b : Value) : argsOk "bytes.join" ⟨[a, b], []⟩ := by unfold argsOk; kernel_rfl
theorem meth_bytes {name : Str} {id : String} {pl : Sem Bool} {Q : Value × List Value → Shared → Prop} (slot : Slot "bytes" name id) (ty : typeOf (.builtin id) = pure (.type "method_descriptor")) (h : Q (.builtin id, [.bytes b t]) s) :
    wpAny M A (getMethod (.bytes b t) name pl) Q E s := getMethod_builtin (typeIs_bytes s b t) FB.plainAttrs_bytes slot ty (fun _ e => nomatch e) h

/-- where a run of bytes is first found, between two places -/
def findAt (b c : Array UInt8) (i j : Int) : Int :=
  match (if (Bytes.window b.size (some i) (some j)).2 - (Bytes.window b.size (some i) (some j)).1 < c.size then none else some ((Bytes.window b.size (some i) (some j)).1.toNat, (Bytes.window b.size (some i) (some j)).2.toNat)).bind fun (lo, hi) => Bytes.find? b c lo hi with
  | some k => (k : Nat)
  | none => -1
theorem bound_int : Bytes.bound? (some (.int i v)) = pure (some i) := by
  have e : specialOf (.int i v) "__index__" = typeLookup (.type "int") "__index__" := rfl
  have e2 : asIndex (.int i v) = pure i := rfl
  unfold Bytes.bound?
  show (specialOf (.int i v) "__index__" >>= fun r => _) = _
  rw [e, F.slot_int_index.lookup]
  show (asIndex (.int i v) >>= fun r => _) = _
  rw [e2]
  rfl
theorem gives_find : Gives («bytes.find» ⟨[.bytes b t, .bytes c u, .int i v, .int j x], []⟩) (.int (findAt b c i j)) := by
  refine .of_wp fun M A E s Q hq => ?_
  show wpAny M A (Bytes.searchArgs .bytes "find" ⟨[.bytes b t, .bytes c u, .int i v, .int j x], []⟩ >>= fun r => _) _ E s
  have e : ∀ (Q : _ → Shared → Prop), Q (b, c, if (Bytes.window b.size (some i) (some j)).2 - (Bytes.window b.size (some i) (some j)).1 < c.size then none else some ((Bytes.window b.size (some i) (some j)).1.toNat, (Bytes.window b.size (some i) (some j)).2.toNat)) s →
      wpAny M A (Bytes.searchArgs .bytes "find" ⟨[.bytes b t, .bytes c u, .int i v, .int j x], []⟩) Q E s := by
    intro Q h
    unfold Bytes.searchArgs
    refine wpAny_bind (wpAny_of_eq (a := (.bytes b t, [.bytes c u, .int i v, .int j x])) rfl ?_)
    refine wpAny_bind (wpAny_of_eq bound_int ?_)
    refine wpAny_bind (wpAny_of_eq bound_int ?_)
    refine wpAny_bind (wpAny_of_eq KBy.buffer_eq ?_)
    refine wpAny_bind (wpAny_pure ?_)
    refine wpAny_bind (wpAny_of_eq (a := b) rfl ?_)
    exact wpAny_pure h
  refine wpAny_bind (e _ ?_)
  unfold findAt at hq
  dsimp only
  split
  · rename_i k hk
    simp only [Bool.false_eq_true, if_false] at hk
    rw [hk] at hq
    exact wpAny_bind (wpAny_mkInt (wpAny_pure ⟨_, rfl, hq⟩))
  · rename_i hk
    simp only [Bool.false_eq_true, if_false] at hk
    rw [hk] at hq
    refine wpAny_bind (wpAny_rule ?_)
    exact wpAny_bind (wpAny_mkInt (wpAny_pure ⟨_, rfl, hq⟩))
theorem find_bytes {Q : Value → Shared → Prop} {k : Int} (e : findAt b c i j = k) (h : Q (.int k s.toks) { s with toks := s.toks + 1 }) :
    wpAny (model prog w) A (call (.builtin "bytes.find") [.bytes b t, .bytes c u, .int i v, .int j x]) Q E s := by
  subst e
  exact call_gives slot_find (typeIs_bytes s b t) entry_find (args_find _ _ _ _) gives_find h

/-- what is left when the ends are taken off -/
def stripOf (b c : Array UInt8) : List UInt8 := ((b.toList.dropWhile c.contains).reverse.dropWhile c.contains).reverse
theorem dropWhile_le {α : Type} (p : α → Bool) : ∀ l : List α, (l.dropWhile p).length ≤ l.length
  | [] => Nat.le_refl _
  | x :: l => by
    rw [List.dropWhile_cons]
    split
    · exact Nat.le_succ_of_le (dropWhile_le p l)
    · exact Nat.le_refl _
theorem dropWhile_same {α : Type} (p : α → Bool) : ∀ l : List α, (l.dropWhile p).length = l.length → l.dropWhile p = l
  | [], _ => rfl
  | x :: l, h => by
    rw [List.dropWhile_cons] at h ⊢
    split at h
    · have := dropWhile_le p l
      simp at h
      omega
    · rename_i q
      rw [if_neg q]
theorem strip_le : (stripOf b c).length ≤ b.size := by
  unfold stripOf
  rw [List.length_reverse]
  refine Nat.le_trans (dropWhile_le _ _) ?_
  rw [List.length_reverse]
  exact Nat.le_trans (dropWhile_le _ _) (by simp)
theorem strip_same (h : (stripOf b c).length = b.size) : stripOf b c = b.toList := by
  unfold stripOf at h ⊢
  rw [List.length_reverse] at h
  have h1 := dropWhile_le c.contains (b.toList.dropWhile c.contains).reverse
  have h2 := dropWhile_le c.contains b.toList
  rw [List.length_reverse] at h1
  have h3 : b.toList.length = b.size := by simp
  rw [dropWhile_same _ _ (by rw [List.length_reverse]; omega), List.reverse_reverse, dropWhile_same _ _ (by omega)]
theorem strip_bytes {Q : Value → Shared → Prop} {k : List UInt8} (e : stripOf b c = k) (hb : b.size ≤ 10000) (h : ∀ t' tk', Q (.bytes k.toArray t') { s with toks := tk' }) :
    wpAny (model prog w) A (call (.builtin "bytes.strip") [.bytes b t, .bytes c u]) Q E s := by
  subst e
  refine wpAny_call (codeAny_call_builtin slot_strip.plain entry_strip (slot_strip.check _ _ _ _ _ _ _ _ (typeIs_bytes s b t) (args_strip _ _) ?_))
  show wpAny _ _ (Bytes.bytesLike "bytes.strip" (.bytes c u) >>= fun set => _) _ _ s
  have e : Bytes.bytesLike "bytes.strip" (.bytes c u) = pure c := by
    unfold Bytes.bytesLike
    rw [KBy.buffer_eq]; rfl
  refine wpAny_bind (wpAny_of_eq e ?_)
  refine wpAny_bind (wpAny_pure ?_)
  refine wpAny_bind (wpAny_pure ?_)
  refine wpAny_bind (wpAny_pure ?_)
  refine wpAny_bind (wpAny_pure ?_)
  show wpAny _ _ (if ((stripOf b c).length == b.size) = true then _ else _) _ _ s
  have hle : (stripOf b c).length ≤ b.size := strip_le
  by_cases hz : ((stripOf b c).length == b.size) = true
  · rw [if_pos hz]
    refine wpAny_bind (wpAny_rule ?_)
    have e0 : Bytes.Kind.same .bytes (.bytes b t) = pure (.bytes b t) := rfl
    have e' : (stripOf b c).toArray = b := by
      apply Array.ext'
      exact strip_same (by simpa using hz)
    have := h t s.toks
    rw [e'] at this
    exact wpAny_bind (wpAny_of_eq e0 (wpAny_pure this))
  · rw [if_neg hz]
    exact wpAny_bind (wpAny_mkBytes (wpAny_pure (h _ _)) (by rw [sizeLine_eq, List.size_toArray]; show (stripOf b c).length ≤ _; omega))

theorem whole_take {id : String} (b : Array UInt8) (t : Tok) : Bytes.takeBufferQuiet? id (.bytes b t) 0 = pure (some (b, none)) := by
  have e : Bytes.takeBuffer? id (.bytes b t) 0 = pure (some (b, none)) := by
    have hf : ((0 : Int) == Bytes.fullReadOnly) = false := by decide
    unfold Bytes.takeBuffer?
    rw [KBy.special_eq KBy.look_buffer, KBy.own_buffer, hf, KBy.buffer_eq]
    kernel_rfl
  unfold Bytes.takeBufferQuiet?
  rw [e]
  rfl
theorem join_one {Q : Value → Shared → Prop} {l : Addr} {n : Nat} (hl : s.heap.get? l = some (listOf [Value.bytes c u].toArray n)) (h : Q (.bytes c u) s) :
    wpAny (model prog w) A (call (.builtin "bytes.join") [.bytes b t, .ref l]) Q E s := by
  refine wpAny_call (codeAny_call_builtin slot_join.plain entry_join (slot_join.check _ _ _ _ _ _ _ _ (typeIs_bytes s b t) (args_join _ _) ?_))
  show wpAny _ _ (Bytes.joinItems (.ref l) >>= fun r => _) _ _ s
  refine wpAny_bind ?_
  unfold Bytes.joinItems
  refine wpAny_bind (wpAny_typeOf (T := "list") ⟨_, hl, rfl⟩ ?_)
  refine wpAny_pure ?_
  show wpAny _ _ (seqItems? (.ref l) >>= fun r => _) _ _ s
  refine wpAny_bind (wpAny_bind (wpAny_load hl (wpAny_pure ?_)))
  refine wpAny_bind (wpAny_typeOf (typeIs_bytes s c u) ?_)
  exact wpAny_bind (wpAny_rule (wpAny_pure h))
theorem join_two {Q : Value → Shared → Prop} {l : Addr} {n : Nat} {d : Array UInt8} (hl : s.heap.get? l = some (listOf [Value.bytes c u, Value.bytes d v].toArray n)) (hb : b = #[]) (hz : c.size + d.size ≤ 10000) (h : ∀ t' tk', Q (.bytes (c ++ d) t') { s with toks := tk' }) :
    wpAny (model prog w) A (call (.builtin "bytes.join") [.bytes b t, .ref l]) Q E s := by
  refine wpAny_call (codeAny_call_builtin slot_join.plain entry_join (slot_join.check _ _ _ _ _ _ _ _ (typeIs_bytes s b t) (args_join _ _) ?_))
  show wpAny _ _ (Bytes.joinItems (.ref l) >>= fun r => _) _ _ s
  refine wpAny_bind ?_
  unfold Bytes.joinItems
  refine wpAny_bind (wpAny_typeOf (T := "list") ⟨_, hl, rfl⟩ ?_)
  refine wpAny_pure ?_
  show wpAny _ _ (seqItems? (.ref l) >>= fun r => _) _ _ s
  refine wpAny_bind (wpAny_bind (wpAny_load hl (wpAny_pure ?_)))
  refine wpAny_bind ?_
  rw [Std.Legacy.Range.forIn_eq_forIn_range']
  rw [show List.range' ([:(#[Value.bytes c u, Value.bytes d v] : Array Value).size] : Std.Legacy.Range).start ([:(#[Value.bytes c u, Value.bytes d v] : Array Value).size] : Std.Legacy.Range).size ([:(#[Value.bytes c u, Value.bytes d v] : Array Value).size] : Std.Legacy.Range).step = [0, 1] from by first | (show List.range' 0 ((2 - 0 + 1 - 1) / 1) 1 = [0,1]; rfl) | (simp [Std.Legacy.Range.size]; done)]
  rw [List.forIn_cons]
  refine wpAny_bind ?_
  refine wpAny_bind (wpAny_bind (wpAny_load hl (wpAny_pure ?_)))
  refine wpAny_bind (wpAny_holding (wpAny_of_eq (whole_take _ _) ?_))
  refine wpAny_bind (wpAny_bind (wpAny_load hl (wpAny_pure ?_)))
  refine wpAny_pure ?_
  dsimp only
  rw [List.forIn_cons]
  refine wpAny_bind ?_
  refine wpAny_bind (wpAny_bind (wpAny_load hl (wpAny_pure ?_)))
  refine wpAny_bind (wpAny_holding (wpAny_of_eq (whole_take _ _) ?_))
  refine wpAny_bind (wpAny_bind (wpAny_load hl (wpAny_pure ?_)))
  refine wpAny_pure ?_
  dsimp only
  rw [List.forIn_nil]
  refine wpAny_pure ?_
  refine wpAny_bind (wpAny_of_eq (a := b) rfl ?_)
  subst hb
  rw [if_neg (by
    have e : Bytes.tooLong (c.size + d.size) = false := KBy.tooLong_not (by omega)
    show ¬ (Bytes.tooLong ((0 * 1 + c.size) + d.size) = true)
    rw [Nat.zero_mul, Nat.zero_add, e]
    exact Bool.false_ne_true)]
  have ej : Bytes.joined #[] ([c, d] : List (Array UInt8)) = c ++ d := by
    show (((#[] : Array UInt8) ++ c) ++ #[]) ++ d = c ++ d
    apply Array.ext'
    simp
  refine wpAny_bind ?_
  show wpAny _ _ (Bytes.Kind.bytes.new (Bytes.joined #[] [c, d])) _ _ _
  rw [ej]
  refine wpAny_mkBytes (b := c ++ d) ?_ (by rw [sizeLine_eq, Array.size_append]; omega)
  refine wpAny_bind (wpAny_holding (wpAny_point ?_))
  refine wpAny_bind ?_
  unfold Bytes.joinLetGo
  refine wpAny_bind (wpAny_letGo ?_)
  unfold Bytes.joinLetGo
  refine wpAny_bind (wpAny_letGo ?_)
  unfold Bytes.joinLetGo
  exact wpAny_pure (wpAny_pure (h _ _))
theorem slot_bcontains : Slot "bytes" "__contains__" "bytes.__contains__" :=
  .of (owner := "bytes") (n := "__contains__") (by rw [typeLookup_type, builtinLookup_eq_fast]; kernel_rfl) (by decide +kernel) (by decide +kernel) (by decide +kernel)
    (by first | exact .inl (by decide +kernel) | exact .inr (by decide +kernel)) (by rw [isSubtype_type]; kernel_rfl)
theorem entry_bcontains : entryFor table "bytes.__contains__" = some Builtin.«bytes.__contains__» := entryFor_of_tree (by kernel_rfl)
theorem args_bcontains (a b : Value) : argsOk "bytes.__contains__" ⟨[a, b], []⟩ := by unfold argsOk; kernel_rfl
theorem gives_bcontains (h0 : 0 ≤ i) (h1 : i < 256) : Gives («bytes.__contains__» ⟨[.bytes b t, .int i u], []⟩) (.val (.bool (b.contains i.toNat.toUInt8))) := by
  refine .of_wp fun M A E s Q hq => ?_
  show wpAny M A (Bytes.containsIn "bytes.__contains__" (.bytes b t) (.int i u) >>= fun r => _) _ E s
  refine wpAny_bind ?_
  unfold Bytes.containsIn
  refine wpAny_bind (wpAny_attempt (wpAny_of_eq (a := i) rfl ?_))
  refine wpAny_bind (wpAny_of_eq KBy.buffer_eq ?_)
  dsimp only
  have hz : ¬ ((decide (i < 0) || decide (i ≥ 256)) = true) := by
    rw [Bool.or_eq_true, decide_eq_true_eq, decide_eq_true_eq]
    omega
  rw [if_neg hz]
  exact wpAny_pure (wpAny_pure ⟨_, rfl, hq⟩)
theorem notin_bytes {Q : Value → Shared → Prop} {r : Bool} (h0 : 0 ≤ i) (h1 : i < 256) (e : (!b.contains i.toNat.toUInt8) = r) (h : Q (.bool r) s) : wpAny (model prog w) A (compareOp .NotIn (.int i u) (.bytes b t)) Q E s := by
  subst e
  exact notIn_gives (typeIs_bytes s b t) slot_bcontains entry_bcontains (args_bcontains _ _) (gives_bcontains h0 h1) h
end
end Mine

-- deps: L1
namespace Mine
/-- what a turn of a loop leaves behind: its answer, or the next turn's state -/
def TurnPost (h₀ : Heap) (L : Addr) (J : (Str → Option Value) → Prop) (need : List (Addr × Obj)) (s₁ : Shared) (Q : Flow → Shared → Prop) (f : Flow) (s₂ : Shared) : Prop :=
  match f with
  | .ret v => Q (.ret v) s₂
  | .brk => Q .next s₂
  | _ => Hold (Ex3 fun h' tk m' => s₂ = { s₁ with heap := h', toks := tk } ∧ Fr h₀ L h' m' ∧ News h₀ L h' need ∧ J m')
section
variable {prog : Program} {w : World} {A : Around} {E : Value → Shared → Prop} {s : Shared} {env : Env} {h₀ : Heap} {x : Str} {body : List Stmt} {Q : Flow → Shared → Prop}
theorem for_listK {l : Addr} {vs : List Value} {nn : Nat} {m₀ : Str → Option Value} {news : List (Addr × Obj)} (J : Nat → (Str → Option Value) → Prop)
    (hh : A.handled = none) (hl : (l, listOf vs.toArray nn) ∈ news) (F : Fr h₀ env.locals s.heap m₀) (N : News h₀ env.locals s.heap news) (hj : J 0 m₀)
    (turn : ∀ i v m₁ h tk own, vs[i]? = some v → J i m₁ → Fr h₀ env.locals h (fun y => if y = x then some v else m₁ y) → News h₀ env.locals h (own ++ news) →
      wpAny (model prog w) A (execs body env) (TurnPost h₀ env.locals (J (i + 1)) (own ++ news) { s with heap := h, toks := tk } Q) E { s with heap := h, toks := tk })
    (done : ∀ m₁ h tk, J vs.length m₁ → Fr h₀ env.locals h m₁ → News h₀ env.locals h news → Q .next { s with heap := h, toks := tk }) :
    wpAny (model prog w) A (pyIter (.ref l)) (fun it s₂ => LoopAtV prog w A h₀ env x body Q E it s₂) E s := by
  have hol : s.heap.get? l = some (listOf vs.toArray nn) := (N _ hl).1
  have hls : s.heap.IsList l vs.toArray := ⟨_, hol, rfl, nn, rfl⟩
  have hne : l ≠ s.heap.objs.size := Nat.ne_of_lt (Heap.lt_size hol)
  refine wpAny_pyIter_list hls ?_
  have W := Walks.list (prog := prog) (w := w) hh s.heap.objs.size l hne vs.toArray
  have hlen : vs.toArray.size = vs.length := by simp
  rw [hlen] at W
  refine ⟨_, _, _, vs.length, _, _, m₀, news, (fun i m nx => nx = news ∧ J i m), rfl, W, ?_, ?_, ?_, ⟨⟨_, Heap.get?_push_size _ rfl, rfl, rfl⟩, hls.at fun o e => Heap.get?_push_of_some _ e⟩, F.push _, (fun p hp => ⟨Heap.get?_push_of_some _ (N p hp).1, (N p hp).2⟩), ⟨rfl, hj⟩, ?_, ?_⟩
  · intro hm
    rcases List.mem_cons.mp hm with e | hm
    · exact absurd F.ns.lt (e ▸ Nat.lt_irrefl _)
    · exact (N _ hl).2.1 ((List.mem_singleton.mp hm).symm)
  · intro b hb
    rw [List.mem_singleton.mp hb]
    exact next_is_new F
  · intro p hp hI
    exact absurd (Heap.lt_size (N p hp).1) ((List.mem_singleton.mp hI) ▸ Nat.lt_irrefl _)
  · rintro i v m₁ news₁ s₁ own ⟨hh', tk', rfl⟩ hin hP ⟨rfl, hJ⟩ hoff _ _ _ _ F₁ N₁
    have hP' : vs[i]? = some v := by simpa using hP
    refine wpAny_mono (turn i v m₁ hh' tk' own hP' hJ F₁ N₁) (fun f s₂ p => ?_) fun _ _ e => e
    have fin : Hold (Ex3 fun h' tk m' => s₂ = { s with heap := h', toks := tk } ∧ Fr h₀ env.locals h' m' ∧ News h₀ env.locals h' (own ++ news₁) ∧ J (i + 1) m') →
        LoopStepU h₀ env.locals [s.heap.objs.size] own (fun m nx => nx = news₁ ∧ J (i + 1) m) { s with heap := hh', toks := tk' } .next s₂ := by
      rintro ⟨h', tk, m', e, F', N', hm⟩
      exact ⟨rfl, h', tk, m', news₁, e, F', N', hoff, rfl, hm⟩
    cases f with
    | ret v => exact .ret p
    | brk => exact .brk p
    | next => exact .next (fin p)
    | cont => exact .cont (fin p)
  · rintro h' tk m' news' F' N' _ ⟨rfl, hJ⟩
    exact done m' h' tk hJ F' N'
end
end Mine
namespace Mine
theorem strsAre_bytes {b : Array UInt8} {ys : List Value} (hl : ys.length = b.size) (h : ∀ (i : Nat) (y : Value), ys[i]? = some y → ∃ (c : UInt8) (t : Tok), b[i]? = some c ∧ y = Value.str ⟨#[c.toNat]⟩ t) :
    StrsAre ys ((b.toList.map (·.toNat)).map fun c => (⟨#[c]⟩ : Str)) :=
  strsAre_of (f := fun c => (⟨#[c]⟩ : Str)) (by simpa using hl) fun i y e => by
    obtain ⟨c, t, e1, e2⟩ := h i y e
    exact ⟨c.toNat, t, by simp [e1], e2⟩
section
variable {prog : Program} {w : World} {A : Around} {E : Value → Shared → Prop} {s : Shared} {h₀ : Heap} {L : Addr} {m : Str → Option Value} {env : Env}
/-- a list of the signs of some bytes: [chr(code) for code in b] -/
theorem comp_B {elt iter : Expr} {x : Str} {px : Pos} {scope : Scope} {cl : List (Str × Addr)} {pos : Pos} {Q : Value → Shared → Prop} (F₀ : Fr h₀ L s.heap m)
    (hclos : closureFor scope env = pure cl) (hcell : ∀ y ∈ scope.names, y.2 ≠ .cell) (hkind : scope.kind = .function)
    (hnames : ∀ y ∈ scope.names, y.2 = .local → scope.names.lookup y.1 = some .local) (hx : scope.names.lookup x = some .local)
    (h : wpAny (model prog w) A (eval iter env) (fun xv s₁ => Hold (Ex3 fun (b : Array UInt8) (t : Tok) (news : List (Addr × Obj)) =>
      xv = .bytes b t ∧ A.handled = none ∧ Fr h₀ L s₁.heap m ∧ News h₀ L s₁.heap news ∧ b.size ≤ sizeLine ∧
      (∀ (c : UInt8) (u : Tok) I oI C oC D m₂ ys h tk (E' : Value → Shared → Prop), LCg.NsObj oC m₂ → m₂ x = some (.int (c.toNat : Int) u) → (c.toNat : Int) < 256 → Fr h₀ L h m → News h₀ L h ((I, oI) :: (C, oC) :: (D, LCg.lst ys) :: news) → LCg.Off3 I C D news → ((@Ne Nat I C) ∧ (@Ne Nat I D) ∧ (@Ne Nat C D)) →
        wpAny (model prog w) A (eval elt (compEnvC scope cl C env)) (ElOk h₀ L m s₁ ((I, oI) :: (C, oC) :: (D, LCg.lst ys) :: news) (fun y => ∃ t, y = .str ⟨#[c.toNat]⟩ t)) E' { s₁ with heap := h, toks := tk }) ∧
      (∀ D ys h tk, StrsAre ys ((b.toList.map (·.toNat)).map fun c => (⟨#[c]⟩ : Str)) → Fr h₀ L h m → News h₀ L h ((D, LCg.lst ys) :: news) → LCg.Off1 D news → Q (.ref D) { s₁ with heap := h, toks := tk }))) E s)
    (hs : ∀ x, foldedSetIterable iter env x = pure x := by intro _; rfl) :
    wpAny (model prog w) A (eval (.ListComp elt [⟨.Name x px, iter, [], 0⟩] scope pos) env) Q E s := by
  refine comp_T F₀ hclos hcell hkind hnames hx (wpAny_mono h (fun xv s₁ h₁ => ?_) fun _ _ e => e) hs
  obtain ⟨b, t, news, rfl, hh, F, N, hsz, turn, fin⟩ := Hold.out h₁
  refine Hold.of ⟨b.size, _, news, fun i y => ∃ (c : UInt8) (t : Tok), b[i]? = some c ∧ y = .str ⟨#[c.toNat]⟩ t, src_bytes hh, F, N, hsz, ?_, ?_⟩
  · intro i v I oI C oC D m₂ ys h tk E' hi hv hC hx' F' N' off ne
    obtain ⟨c, u, hc, rfl⟩ := hv
    refine wpAny_mono (turn c u I oI C oC D m₂ ys h tk E' hC hx' (by have := UInt8.toNat_lt c; omega) F' N' off ne) (fun y s₂ hq => ?_) fun _ _ e => e
    obtain ⟨⟨t', e⟩, r⟩ := hq
    exact ⟨⟨c, t', hc, e⟩, r⟩
  · intro D ys h tk hl hg F' N' off
    exact fin D ys h tk (strsAre_bytes hl hg) F' N' off
theorem join_signsB {b : Array UInt8} {ys : List Value} {D : Addr} {t : Tok} {Q : Value → Shared → Prop} (hl : s.heap.IsList D ys.toArray) (hS : StrsAre ys ((b.toList.map (·.toNat)).map fun c => (⟨#[c]⟩ : Str))) (hb : b.size ≤ 10000)
    (h : ∀ t' k, Q (.str ⟨b.map (·.toNat)⟩ t') { s with toks := k }) : wpAny (model prog w) A (call (.builtin "str.join") [.str (Str.ofString "") t, .ref D]) Q E s := by
  refine join_listW (items := ys.toArray) (ys := (b.toList.map (·.toNat)).map fun c => ⟨#[c]⟩) hl hS (by decide) (signs_weight (fun c => c) _ (by simpa using hb)) ?_
  intro t' k
  have e : Txt.join (Str.ofString "") ((b.toList.map (·.toNat)).map fun c => (⟨#[c]⟩ : Str)) = ⟨b.map (·.toNat)⟩ := by
    refine (join_signs (Str.ofString "") (by decide) (b.toList.map (·.toNat))).trans ?_
    congr 1
    apply Array.ext'
    simp
  rw [e]
  exact h t' k
end
end Mine
namespace Mine
theorem fr_known {h₀ h : Heap} {L : Addr} {m : Str → Option Value} {y0 : Str} {v0 : Value} (F : Fr h₀ L h m) (e : m y0 = some v0) : Fr h₀ L h (fun y => if y = y0 then some v0 else m y) := by
  have : (fun y => if y = y0 then some v0 else m y) = m := by
    funext y
    by_cases hy : y = y0
    · rw [if_pos hy, hy, e]
    · rw [if_neg hy]
  rw [this]; exact F
end Mine

-- deps: L1 L3
namespace Mine
theorem intsAreM : ∀ {l : List Nat} {ys : List Value}, ys.length = l.length → (∀ (i : Nat) (y : Value), ys[i]? = some y → ∃ (c : Nat) (t : Tok), l[i]? = some c ∧ y = Value.int ((c : Nat) : Int) t) → IntsAre ys (l.map fun c => ((c : Nat) : Int))
  | [], [], _, _ => .nil
  | [], _ :: _, h, _ => by simp at h
  | _ :: _, [], h, _ => by simp at h
  | c :: l, y :: ys, h, g => by
    obtain ⟨c', t, e, rfl⟩ := g 0 y rfl
    simp at e
    subst e
    exact .cons _ t (intsAreM (by simpa using h) fun i y e => by
      obtain ⟨c', t, e', q⟩ := g (i + 1) y (by simpa using e)
      exact ⟨c', t, by simpa using e', q⟩)
/-- a text's signs, one octet each -/
def octS (x : Str) : Array UInt8 := byteArr (x.cps.toList.map fun c => ((c : Nat) : Int))
section
variable {prog : Program} {w : World} {A : Around} {E : Value → Shared → Prop} {s : Shared} {h₀ : Heap} {L : Addr} {m : Str → Option Value} {env : Env}
/-- a list of the numbers of a text's signs: [ord(sign) for sign in x] -/
theorem comp_S {elt iter : Expr} {y : Str} {px : Pos} {scope : Scope} {cl : List (Str × Addr)} {pos : Pos} {Q : Value → Shared → Prop} (F₀ : Fr h₀ L s.heap m)
    (hclos : closureFor scope env = pure cl) (hcell : ∀ y ∈ scope.names, y.2 ≠ .cell) (hkind : scope.kind = .function)
    (hnames : ∀ y ∈ scope.names, y.2 = .local → scope.names.lookup y.1 = some .local) (hx : scope.names.lookup y = some .local)
    (h : wpAny (model prog w) A (eval iter env) (fun xv s₁ => Hold (Ex3 fun (x : Str) (t : Tok) (news : List (Addr × Obj)) =>
      xv = .str x t ∧ A.handled = none ∧ Fr h₀ L s₁.heap m ∧ News h₀ L s₁.heap news ∧ x.cps.size ≤ sizeLine ∧
      (∀ (c : Nat) (u : Tok) I oI C oC D m₂ ys h tk (E' : Value → Shared → Prop), LCg.NsObj oC m₂ → m₂ y = some (.str ⟨#[c]⟩ u) → Fr h₀ L h m → News h₀ L h ((I, oI) :: (C, oC) :: (D, LCg.lst ys) :: news) → LCg.Off3 I C D news → ((@Ne Nat I C) ∧ (@Ne Nat I D) ∧ (@Ne Nat C D)) →
        wpAny (model prog w) A (eval elt (compEnvC scope cl C env)) (ElOk h₀ L m s₁ ((I, oI) :: (C, oC) :: (D, LCg.lst ys) :: news) (fun z => ∃ t, z = .int (c : Nat) t)) E' { s₁ with heap := h, toks := tk }) ∧
      (∀ D ys h tk, IntsAre ys (x.cps.toList.map fun c => ((c : Nat) : Int)) → Fr h₀ L h m → News h₀ L h ((D, LCg.lst ys) :: news) → LCg.Off1 D news → Q (.ref D) { s₁ with heap := h, toks := tk }))) E s)
    (hs : ∀ x, foldedSetIterable iter env x = pure x := by intro _; rfl) :
    wpAny (model prog w) A (eval (.ListComp elt [⟨.Name y px, iter, [], 0⟩] scope pos) env) Q E s := by
  refine comp_T F₀ hclos hcell hkind hnames hx (wpAny_mono h (fun xv s₁ h₁ => ?_) fun _ _ e => e) hs
  obtain ⟨x, t, news, rfl, hh, F, N, hsz, turn, fin⟩ := Hold.out h₁
  refine Hold.of ⟨x.cps.size, _, news, fun i z => ∃ (c : Nat) (t : Tok), x.cps.toList[i]? = some c ∧ z = .int (c : Nat) t, src_str hh, F, N, hsz, ?_, ?_⟩
  · intro i v I oI C oC D m₂ ys h tk E' hi hv hC hx' F' N' off ne
    obtain ⟨c, u, hc, rfl⟩ := hv
    refine wpAny_mono (turn c u I oI C oC D m₂ ys h tk E' hC hx' F' N' off ne) (fun y s₂ hq => ?_) fun _ _ e => e
    obtain ⟨⟨t', e⟩, r⟩ := hq
    exact ⟨⟨c, t', by simpa using hc, e⟩, r⟩
  · intro D ys h tk hl hg F' N' off
    exact fin D ys h tk (intsAreM (by rw [hl]; simp) hg) F' N' off
theorem bytes_ints {D : Addr} {vs : List Value} {ns : List Int} {news : List (Addr × Obj)} {Q : Value → Shared → Prop} (F : Fr h₀ L s.heap m) (N : News h₀ L s.heap news) (hh : A.handled = none) (hl : s.heap.IsList D vs.toArray) (hi : IntsAre vs ns) (hr : ∀ n ∈ ns, 0 ≤ n ∧ n < 256) (hn : ns.length ≤ 10000)
    (h : ∀ h' t' k, Fr h₀ L h' m → News h₀ L h' news → Q (.bytes (byteArr ns) t') { s with heap := h', toks := k }) : wpAny (model prog w) A (call (.type "bytes") [.ref D]) Q E s :=
  call_bytes_ints hl hi hr (by rw [hi.length, sizeLine_eq]; omega) hh fun h' t' k hk => h h' t' k (F.keptAll hk) (N.grown hk)
end
section
variable {prog : Program} {w : World} {A : Around} {E : Value → Shared → Prop} {s : Shared} {env : Env} {h₀ : Heap} {x : Str} {body : List Stmt} {Q : Flow → Shared → Prop}
theorem for_rangeK {r : Addr} {a₀ b₀ : Int} {t₀ u₀ v₀ : Tok} {n : Nat} {m₀ : Str → Option Value} {news : List (Addr × Obj)} (J : Nat → (Str → Option Value) → Prop)
    (hh : A.handled = none) (hr : IsRange s.heap r a₀ b₀ 1 t₀ u₀ v₀) (hsmall : Builtin.Range.small a₀ b₀ 1 = true) (hn : Builtin.Range.rangeSize a₀ b₀ 1 = (n : Int)) (F : Fr h₀ env.locals s.heap m₀) (N : News h₀ env.locals s.heap news) (hj : J 0 m₀)
    (turn : ∀ (i : Nat) t m₁ h tk own, i < n → J i m₁ → Fr h₀ env.locals h (fun y => if y = x then some (.int (a₀ + (i : Nat)) t) else m₁ y) → News h₀ env.locals h (own ++ news) →
      wpAny (model prog w) A (execs body env) (TurnPost h₀ env.locals (J (i + 1)) (own ++ news) { s with heap := h, toks := tk } Q) E { s with heap := h, toks := tk })
    (done : ∀ m₁ h tk, J n m₁ → Fr h₀ env.locals h m₁ → News h₀ env.locals h news → Q .next { s with heap := h, toks := tk }) :
    wpAny (model prog w) A (pyIter (.ref r)) (fun it s₂ => LoopAtV prog w A h₀ env x body Q E it s₂) E s := by
  refine wpAny_pyIter_range hr hsmall ?_
  have W := LCg.range_walks (prog := prog) (w := w) (A := A) (I := s.heap.objs.size) hh a₀ n
  refine ⟨_, _, _, n, _, _, m₀, news, (fun i m nx => nx = news ∧ J i m), rfl, W, ?_, ?_, ?_, (by show IsRangeIter _ _ _ _ _; rw [hn]; simpa using Heap.get?_push_size _ rfl), F.push _, (fun p hp => ⟨Heap.get?_push_of_some _ (N p hp).1, (N p hp).2⟩), ⟨rfl, hj⟩, ?_, ?_⟩
  · intro hm
    exact absurd F.ns.lt ((List.mem_singleton.mp hm) ▸ Nat.lt_irrefl _)
  · intro b hb
    rw [List.mem_singleton.mp hb]
    exact next_is_new F
  · intro p hp hI
    exact absurd (Heap.lt_size (N p hp).1) ((List.mem_singleton.mp hI) ▸ Nat.lt_irrefl _)
  · rintro i v m₁ news₁ s₁ own ⟨hh', tk', rfl⟩ hin ⟨t, rfl⟩ ⟨rfl, hJ⟩ hoff _ _ _ _ F₁ N₁
    refine wpAny_mono (turn i t m₁ hh' tk' own hin hJ F₁ N₁) (fun f s₂ p => ?_) fun _ _ e => e
    have fin : Hold (Ex3 fun h' tk m' => s₂ = { s with heap := h', toks := tk } ∧ Fr h₀ env.locals h' m' ∧ News h₀ env.locals h' (own ++ news₁) ∧ J (i + 1) m') →
        LoopStepU h₀ env.locals [s.heap.objs.size] own (fun m nx => nx = news₁ ∧ J (i + 1) m) { s with heap := hh', toks := tk' } .next s₂ := by
      rintro ⟨h', tk, m', e, F', N', hm⟩
      exact ⟨rfl, h', tk, m', news₁, e, F', N', hoff, rfl, hm⟩
    cases f with
    | ret v => exact .ret p
    | brk => exact .brk p
    | next => exact .next (fin p)
    | cont => exact .cont (fin p)
  · rintro h' tk m' news' F' N' _ ⟨rfl, hJ⟩
    exact done m' h' tk hJ F' N'
end
end Mine
namespace Mine
section
variable {prog : Program} {w : World} {A : Around} {E : Value → Shared → Prop} {s : Shared} {value slice : Expr} {x : Str} {t u : Tok} {Q : Value → Shared → Prop}
theorem item_at {i : Nat} {j : Int} (hj : j = (i : Nat)) (h : i < x.cps.size) : Txt.item x j = ⟨#[x.cps[i]]⟩ := by
  subst hj
  have hn : ¬ ((i : Int) < 0) := by omega
  have h0 : (0 : Int) ≤ i := by omega
  have h1 : (i : Int) < (x.length : Nat) := by simp only [Str.length]; omega
  unfold Txt.item Txt.charAt
  simp [seqIndex?, hn, h0, h1, h]
theorem str_at {i : Nat} {j : Int} (hj : j = (i : Nat)) (hi : i < x.cps.size) (hz : x.cps.size ≤ 1000) (h : Q (.str ⟨#[x.cps[i]]⟩ s.toks) { s with toks := s.toks + 1 })
    (hs : subscripted slice false (.str x t) (.int j u) = operate [.str x t, .int j u] (getItem (.str x t) (.int j u)) := by with_unfolding_all rfl)
    (ht : ∀ r, letTemporaryGo value (.str x t) r = pure () := by intro _; with_unfolding_all rfl) :
    wpAny (model prog w) A (subscriptTail value slice (.str x t) (.int j u)) Q E s :=
  KXi.item (n := x.cps.size) rfl (by omega) (by omega) (by omega) (fun _ => by rw [item_at hj hi]; exact h) hs ht
end
end Mine

-- deps: L1 L3
namespace Mine
section
variable {prog : Program} {w : World} {A : Around} {E : Value → Shared → Prop} {s : Shared} {h₀ : Heap} {L : Addr} {m : Str → Option Value} {env : Env}
/-- a list or a tuple that stands below, or in the ledger -/
def SeqIn (h₀ : Heap) (ax : Addr) (its : Array Value) (T : String) (nw : List (Addr × Obj)) : Prop :=
  (∃ o, h₀.get? ax = some o ∧ o.cls = .type T ∧ ∃ n, o.data = .seq its n) ∨ ∃ o, (ax, o) ∈ nw ∧ o.cls = .type T ∧ ∃ n, o.data = .seq its n
theorem SeqIn.now {h : Heap} {ax : Addr} {its : Array Value} {T : String} {nw : List (Addr × Obj)} (x : SeqIn h₀ ax its T nw) (k : ∀ b o, h₀.get? b = some o → h.get? b = some o) (N : News h₀ L h nw) :
    ∃ o, h.get? ax = some o ∧ o.cls = .type T ∧ ∃ n, o.data = .seq its n := by
  rcases x with ⟨o, e, r⟩ | ⟨o, hm, r⟩
  · exact ⟨o, k _ _ e, r⟩
  · exact ⟨o, (N _ hm).1, r⟩
theorem SeqIn.mono {ax : Addr} {its : Array Value} {T : String} {nw nw' : List (Addr × Obj)} (x : SeqIn h₀ ax its T nw) (k : ∀ p ∈ nw, p ∈ nw') : SeqIn h₀ ax its T nw' := by
  rcases x with e | ⟨o, hm, r⟩
  · exact .inl e
  · exact .inr ⟨o, k _ hm, r⟩
/-- a comprehension with one test over a list or a tuple; what stands may change -/
theorem comp_J {ct elt iter : Expr} {x : Str} {px : Pos} {scope : Scope} {cl : List (Str × Addr)} {pos : Pos} {Q : Value → Shared → Prop} (_F₀ : Fr h₀ L s.heap m)
    (hclos : closureFor scope env = pure cl) (hcell : ∀ y ∈ scope.names, y.2 ≠ .cell) (hkind : scope.kind = .function)
    (hnames : ∀ y ∈ scope.names, y.2 = .local → scope.names.lookup y.1 = some .local) (hx : scope.names.lookup x = some .local)
    (h : wpAny (model prog w) A (eval iter env) (fun xv s₁ => Hold (Ex5 fun (ax : Addr) (its : Array Value) (T : String) (news : List (Addr × Obj)) (J : Nat → List Value → List (Addr × Obj) → Prop) =>
      xv = .ref ax ∧ (T = "list" ∨ T = "tuple") ∧ A.handled = none ∧ Fr h₀ L s₁.heap m ∧ News h₀ L s₁.heap news ∧ SeqIn h₀ ax its T news ∧ its.size ≤ sizeLine ∧ J 0 [] news ∧ (∀ i ys nw, J i ys nw → SeqIn h₀ ax its T nw) ∧
      (∀ (i : Nat) (v : Value) I oI C oC D m₂ ys nw h tk (E' : Value → Shared → Prop), its[i]? = some v → J i ys nw → LCg.NsObj oC m₂ → m₂ x = some v → Fr h₀ L h m → News h₀ L h ((I, oI) :: (C, oC) :: (D, LCg.lst ys) :: nw) → LCg.Off3 I C D nw → ((@Ne Nat I C) ∧ (@Ne Nat I D) ∧ (@Ne Nat C D)) →
        wpAny (model prog w) A (isTrue ct (compEnvC scope cl C env) (eval ct (compEnvC scope cl C env))) (fun ok s' => if ok = true then
          wpAny (model prog w) A (eval elt (compEnvC scope cl C env)) (fun y s₂ => Hold (Ex3 fun h' tk' nw' => s₂ = { s₁ with heap := h', toks := tk' } ∧ Fr h₀ L h' m ∧ News h₀ L h' ((I, oI) :: (C, oC) :: (D, LCg.lst ys) :: nw') ∧ LCg.Off3 I C D nw' ∧ J (i + 1) (ys ++ [y]) nw')) E' s'
          else Hold (Ex3 fun h' tk' nw' => s' = { s₁ with heap := h', toks := tk' } ∧ Fr h₀ L h' m ∧ News h₀ L h' ((I, oI) :: (C, oC) :: (D, LCg.lst ys) :: nw') ∧ LCg.Off3 I C D nw' ∧ J (i + 1) ys nw')) E' { s₁ with heap := h, toks := tk }) ∧
      (∀ D ys nw h tk, J its.size ys nw → Fr h₀ L h m → News h₀ L h ((D, LCg.lst ys) :: nw) → LCg.Off1 D nw → Q (.ref D) { s₁ with heap := h, toks := tk }))) E s)
    (hs : ∀ x, foldedSetIterable iter env x = pure x := by intro _; rfl) :
    wpAny (model prog w) A (eval (.ListComp elt [⟨.Name x px, iter, [ct], 0⟩] scope pos) env) Q E s := by
  rw [eval_ListComp]
  refine wpAny_comprehension_free (use := none) rfl hs hclos hkind hnames (wpAny_mono h (fun xv s₁ h₁ => ?_) fun _ _ e => e)
  obtain ⟨ax, its, T, news, J, rfl, hT, hh, F, N, hS, hsz, hJ0, hJS, turn, fin⟩ := Hold.out h₁
  have key : ∀ (g : Heap) (j i : Nat) (ys : List Value) (nw : List (Addr × Obj)), i + j = its.size → J i ys nw →
      LCt.CompRestT prog w A h₀ L m env ct elt x scope cl { s₁ with heap := g } (SeqIn h₀ ax its T) (fun i v => its[i]? = some v) (fun ys' nw' => J its.size ys' nw') j i ys nw := by
    intro g j
    induction j with
    | zero =>
      intro i ys nw hi hJ
      have : i = its.size := by omega
      subst this
      exact LCt.CompRestT.zero hJ
    | succ j ih =>
      intro i ys nw hi hJ
      refine LCt.CompRestT.succ ?_
      intro v I oI C oC D m₂ h tk E' hv hC hx' F' N' off ne
      refine wpAny_mono (turn i v I oI C oC D m₂ ys nw h tk E' hv hJ hC hx' F' N' off ne) (fun ok s₂ hq => ?_) fun _ _ e => e
      cases ok with
      | true =>
        simp only [if_true] at hq ⊢
        refine wpAny_mono hq (fun y s₃ hq' => ?_) fun _ _ e => e
        obtain ⟨h', tk', nw', rfl, F₂, N₂, off₂, J₂⟩ := Hold.out hq'
        exact ⟨h', tk', nw', rfl, F₂, N₂, off₂, hJS _ _ _ J₂, ih (i + 1) _ _ (by omega) J₂⟩
      | false =>
        simp only [Bool.false_eq_true, if_false] at hq ⊢
        obtain ⟨h', tk', nw', rfl, F₂, N₂, off₂, J₂⟩ := Hold.out hq
        exact ⟨h', tk', nw', rfl, F₂, N₂, off₂, hJS _ _ _ J₂, ih (i + 1) _ _ (by omega) J₂⟩
  have last : ∀ D C h tk m' ys news', Fr h₀ L h m → News h₀ L h ((D, LCg.lst ys) :: news') → LCg.Off1 D news' → h.Ns C m' → h₀.get? C = none → h₀.get? D = none → C ≠ L → D ≠ L → C ≠ D → (∀ p ∈ news', p.1 ≠ C) → J its.size ys news' →
      ∃ m, h.Ns C m ∧ ∀ h', Heap.SameBut C h h' → Q (.ref D) { s₁ with heap := h', toks := tk } := by
    intro D C h tk m' ys news' F' N' o1 hn hC₀ hD₀ hCL hDL hCD offC hJ
    refine ⟨m', hn, fun h'' hs'' => fin D ys news' h'' tk hJ (F'.change hs'' hCL hC₀) (fun p hp => ?_) o1⟩
    refine ⟨hs''.extBut _ _ ?_ (N' p hp).1, (N' p hp).2⟩
    rcases List.mem_cons.mp hp with rfl | hp
    · exact Ne.symm hCD
    · exact offC p hp
  obtain ⟨ol, hol, hcl, nl, hdl⟩ := hS.now F.keep N
  have hlt : ax < s₁.heap.objs.size := Heap.lt_size hol
  have st : ∀ (I : Addr) (T' : String) (St : Nat → Heap → Prop), (∀ i h, St i h ↔ ((∃ o, h.get? I = some o ∧ o.cls = .type T' ∧ o.data = .fields #[.ref ax, .int i 0]) ∧ ∃ o, h.get? ax = some o ∧ o.cls = .type T ∧ ∃ n, o.data = .seq its n)) →
      ∀ i h h' o nw, St i h → h.get? I = some o → h'.get? I = some o → (∀ b o, h₀.get? b = some o → h'.get? b = some o) → News h₀ L h' nw → SeqIn h₀ ax its T nw → St i h' := by
    intro I T' St hSt i h h' o nw hs e e' k N' S'
    rw [hSt] at hs ⊢
    obtain ⟨⟨o', q, r⟩, _⟩ := hs
    rw [e] at q; cases q
    exact ⟨⟨o, e', r⟩, S'.now k N'⟩
  rcases hT with rfl | rfl
  · refine wpAny_pyIter_list ⟨ol, hol, hcl, nl, hdl⟩ ?_
    have up : ∀ b o, s₁.heap.get? b = some o → (s₁.heap.push { cls := .type "list_iterator", data := .fields #[.ref ax, .int 0 0] }).get? b = some o := fun b o e => Heap.get?_push_of_some _ e
    refine LCt.block_T (S := SeqIn h₀ ax its "list") (Walks.list hh s₁.heap.objs.size ax (Nat.ne_of_lt hlt) its) hsz (fun i h st => by obtain ⟨o, e, _⟩ := st.1; exact ⟨o, e⟩) (st _ "list_iterator" _ fun i h => Iff.rfl) hcell hkind hx ⟨⟨_, Heap.get?_push_size _ rfl, rfl, rfl⟩, ⟨ol, up _ _ hol, hcl, nl, hdl⟩⟩ (fun b hb => ?_)
      (F.keeps up) (N.grown up) (Nat.ne_of_lt F.ns.lt) (next_is_new F) (fun p hp => Nat.ne_of_lt (Heap.lt_size (N p hp).1)) hS (key _ its.size 0 [] news (by omega) hJ0) last
    show b < (s₁.heap.push _).objs.size
    rw [Heap.size_push]
    rcases List.mem_cons.mp hb with rfl | hb
    · exact Nat.lt_succ_self _
    · rw [List.mem_singleton.mp hb]; exact Nat.lt_succ_of_lt hlt
  · refine wpAny_pyIter_tuple ⟨ol, hol, hcl, nl, hdl⟩ ?_
    have up : ∀ b o, s₁.heap.get? b = some o → (s₁.heap.push { cls := .type "tuple_iterator", data := .fields #[.ref ax, .int 0 0] }).get? b = some o := fun b o e => Heap.get?_push_of_some _ e
    refine LCt.block_T (S := SeqIn h₀ ax its "tuple") (Walks.tuple hh s₁.heap.objs.size ax (Nat.ne_of_lt hlt) its) hsz (fun i h st => by obtain ⟨o, e, _⟩ := st.1; exact ⟨o, e⟩) (st _ "tuple_iterator" _ fun i h => Iff.rfl) hcell hkind hx ⟨⟨_, Heap.get?_push_size _ rfl, rfl, rfl⟩, ⟨ol, up _ _ hol, hcl, nl, hdl⟩⟩ (fun b hb => ?_)
      (F.keeps up) (N.grown up) (Nat.ne_of_lt F.ns.lt) (next_is_new F) (fun p hp => Nat.ne_of_lt (Heap.lt_size (N p hp).1)) hS (key _ its.size 0 [] news (by omega) hJ0) last
    show b < (s₁.heap.push _).objs.size
    rw [Heap.size_push]
    rcases List.mem_cons.mp hb with rfl | hb
    · exact Nat.lt_succ_self _
    · rw [List.mem_singleton.mp hb]; exact Nat.lt_succ_of_lt hlt
end
end Mine
namespace Mine
section
variable {prog : Program} {w : World} {A : Around} {E : Value → Shared → Prop} {s : Shared}
theorem notin_tup {t : Addr} {items : Array Value} {ys : List Str} {x : Str} {u : Tok} {r : Bool} {Q : Value → Shared → Prop} (ht : IsTup s.heap t items) (hi : StrsAre items.toList ys) (hr : (!(ys.any (· == x))) = r)
    (h : Q (.bool r) s) : wpAny (model prog w) A (compareOp .NotIn (.str x u) (.ref t)) Q E s := by
  subst hr
  exact notin_tuple_strs ht hi h
theorem len_lst {D : Addr} {ys : List Value} {n : Nat} {Q : Value → Shared → Prop} (hl : s.heap.IsList D ys.toArray) (hn : ys.length = n) (hs : n ≤ 1000) (h : Q (.int (n : Nat) (s.toks + 1)) { s with toks := s.toks + 1 + 1 }) :
    wpAny (model prog w) A (call (.builtin "len") [.ref D]) Q E s := by
  subst hn
  exact len_list hl (by rw [List.size_toArray]; omega) (by rw [List.size_toArray]; exact h)
end
end Mine

-- deps: L1 L3
namespace Mine
/-- what a turn leaves, where the ledger may change: the loop's iterator stays apart -/
def TurnJ (h₀ : Heap) (L : Addr) (J : (Str → Option Value) → List (Addr × Obj) → Prop) (I : Addr) (oI : Obj) (s₁ : Shared) (Q : Flow → Shared → Prop) (f : Flow) (s₂ : Shared) : Prop :=
  match f with
  | .ret v => Q (.ret v) s₂
  | .brk => Q .next s₂
  | _ => Hold (Ex4 fun h' tk m' nx => s₂ = { s₁ with heap := h', toks := tk } ∧ Fr h₀ L h' m' ∧ News h₀ L h' ((I, oI) :: nx) ∧ (∀ p ∈ nx, p.1 ≠ I) ∧ J m' nx)
section
variable {prog : Program} {w : World} {A : Around} {E : Value → Shared → Prop} {s : Shared} {env : Env} {h₀ : Heap} {x : Str} {body : List Stmt} {Q : Flow → Shared → Prop}
theorem for_rangeJ {r : Addr} {a₀ b₀ : Int} {t₀ u₀ v₀ : Tok} {n : Nat} {m₀ : Str → Option Value} {news : List (Addr × Obj)} (J : Nat → (Str → Option Value) → List (Addr × Obj) → Prop)
    (hh : A.handled = none) (hr : IsRange s.heap r a₀ b₀ 1 t₀ u₀ v₀) (hsmall : Builtin.Range.small a₀ b₀ 1 = true) (hn : Builtin.Range.rangeSize a₀ b₀ 1 = (n : Int)) (F : Fr h₀ env.locals s.heap m₀) (N : News h₀ env.locals s.heap news) (hj : J 0 m₀ news)
    (turn : ∀ (i : Nat) t m₁ nx I oI h tk, i < n → J i m₁ nx → (∀ p ∈ nx, p.1 ≠ I) → Fr h₀ env.locals h (fun y => if y = x then some (.int (a₀ + (i : Nat)) t) else m₁ y) → News h₀ env.locals h ((I, oI) :: nx) →
      wpAny (model prog w) A (execs body env) (TurnJ h₀ env.locals (J (i + 1)) I oI { s with heap := h, toks := tk } Q) E { s with heap := h, toks := tk })
    (done : ∀ m₁ nx h tk, J n m₁ nx → Fr h₀ env.locals h m₁ → News h₀ env.locals h nx → Q .next { s with heap := h, toks := tk }) :
    wpAny (model prog w) A (pyIter (.ref r)) (fun it s₂ => LoopAtV prog w A h₀ env x body Q E it s₂) E s := by
  refine wpAny_pyIter_range hr hsmall ?_
  have W := LCg.range_walks (prog := prog) (w := w) (A := A) (I := s.heap.objs.size) hh a₀ n
  refine ⟨_, _, _, n, _, _, m₀, news, J, rfl, W, ?_, ?_, ?_, (by show IsRangeIter _ _ _ _ _; rw [hn]; simpa using Heap.get?_push_size _ rfl), F.push _, (fun p hp => ⟨Heap.get?_push_of_some _ (N p hp).1, (N p hp).2⟩), hj, ?_, ?_⟩
  · intro hm
    exact absurd F.ns.lt ((List.mem_singleton.mp hm) ▸ Nat.lt_irrefl _)
  · intro b hb
    rw [List.mem_singleton.mp hb]
    exact next_is_new F
  · intro p hp hI
    exact absurd (Heap.lt_size (N p hp).1) ((List.mem_singleton.mp hI) ▸ Nat.lt_irrefl _)
  · rintro i v m₁ nx s₁ own ⟨hh', tk', rfl⟩ hin ⟨t, rfl⟩ hJ hoff hown hget hall hst F₁ N₁
    obtain ⟨oI, hst'⟩ : ∃ oI, hh'.get? s.heap.objs.size = some oI := ⟨_, hst⟩
    have hI₀ : h₀.get? s.heap.objs.size = none := next_is_new F
    have hmem := hall s.heap.objs.size (List.mem_singleton.mpr rfl) hI₀ _ hst'
    have one : ∀ p ∈ own, p = (s.heap.objs.size, oI) := fun p hp => by
      have h1 := List.mem_singleton.mp (hown p hp)
      have h2 : hh'.get? p.1 = some p.2 := hget p hp
      rw [h1, hst'] at h2
      exact Prod.ext h1 (Option.some.inj h2).symm
    refine wpAny_mono (turn i t m₁ nx s.heap.objs.size oI hh' tk' hin hJ (fun p hp e => hoff p hp (List.mem_singleton.mpr e)) F₁ (fun p hp => ?_)) (fun f s₂ p => ?_) fun _ _ e => e
    · rcases List.mem_cons.mp hp with rfl | hp
      · exact N₁ _ (List.mem_append_left _ hmem)
      · exact N₁ _ (List.mem_append_right _ hp)
    have fin : Hold (Ex4 fun h' tk m' nx' => s₂ = { s with heap := h', toks := tk } ∧ Fr h₀ env.locals h' m' ∧ News h₀ env.locals h' ((s.heap.objs.size, oI) :: nx') ∧ (∀ p ∈ nx', p.1 ≠ s.heap.objs.size) ∧ J (i + 1) m' nx') →
        LoopStepU h₀ env.locals [s.heap.objs.size] own (J (i + 1)) { s with heap := hh', toks := tk' } .next s₂ := by
      rintro ⟨h', tk, m', nx', e, F', N', hne, hm⟩
      refine ⟨rfl, h', tk, m', nx', e, F', fun p hp => ?_, fun p hp hq => hne p hp (List.mem_singleton.mp hq), hm⟩
      rcases List.mem_append.mp hp with hp | hp
      · rw [one p hp]; exact N' _ (.head _)
      · exact N' _ (.tail _ hp)
    cases f with
    | ret v => exact .ret p
    | brk => exact .brk p
    | next => exact .next (fin p)
    | cont => exact .cont (fin p)
  · rintro h' tk m' news' F' N' _ hJ
    exact done m' news' h' tk hJ F' N'
theorem for_listJ {l : Addr} {vs : List Value} {nn : Nat} {m₀ : Str → Option Value} {news : List (Addr × Obj)} (J : Nat → (Str → Option Value) → List (Addr × Obj) → Prop)
    (hh : A.handled = none) (hl : (l, listOf vs.toArray nn) ∈ news) (hJl : ∀ i m nx, J i m nx → (l, listOf vs.toArray nn) ∈ nx) (F : Fr h₀ env.locals s.heap m₀) (N : News h₀ env.locals s.heap news) (hj : J 0 m₀ news)
    (turn : ∀ (i : Nat) v m₁ nx I oI h tk, vs[i]? = some v → J i m₁ nx → (∀ p ∈ nx, p.1 ≠ I) → Fr h₀ env.locals h (fun y => if y = x then some v else m₁ y) → News h₀ env.locals h ((I, oI) :: nx) →
      wpAny (model prog w) A (execs body env) (TurnJ h₀ env.locals (J (i + 1)) I oI { s with heap := h, toks := tk } Q) E { s with heap := h, toks := tk })
    (done : ∀ m₁ nx h tk, J vs.length m₁ nx → Fr h₀ env.locals h m₁ → News h₀ env.locals h nx → Q .next { s with heap := h, toks := tk }) :
    wpAny (model prog w) A (pyIter (.ref l)) (fun it s₂ => LoopAtV prog w A h₀ env x body Q E it s₂) E s := by
  have hol : s.heap.get? l = some (listOf vs.toArray nn) := (N _ hl).1
  have hls : s.heap.IsList l vs.toArray := ⟨_, hol, rfl, nn, rfl⟩
  have hne : l ≠ s.heap.objs.size := Nat.ne_of_lt (Heap.lt_size hol)
  refine wpAny_pyIter_list hls ?_
  have W := Walks.list (prog := prog) (w := w) hh s.heap.objs.size l hne vs.toArray
  have hlen : vs.toArray.size = vs.length := by simp
  rw [hlen] at W
  refine ⟨_, _, _, vs.length, _, _, m₀, news, J, rfl, W, ?_, ?_, ?_, ⟨⟨_, Heap.get?_push_size _ rfl, rfl, rfl⟩, hls.at fun o e => Heap.get?_push_of_some _ e⟩, F.push _, (fun p hp => ⟨Heap.get?_push_of_some _ (N p hp).1, (N p hp).2⟩), hj, ?_, ?_⟩
  · intro hm
    rcases List.mem_cons.mp hm with e | hm
    · exact absurd F.ns.lt (e ▸ Nat.lt_irrefl _)
    · exact (N _ hl).2.1 ((List.mem_singleton.mp hm).symm)
  · intro b hb
    rw [List.mem_singleton.mp hb]
    exact next_is_new F
  · intro p hp hI
    exact absurd (Heap.lt_size (N p hp).1) ((List.mem_singleton.mp hI) ▸ Nat.lt_irrefl _)
  · rintro i v m₁ nx s₁ own ⟨hh', tk', rfl⟩ hin hP hJ hoff hown hget hall ⟨⟨oI, hst', _⟩, _⟩ F₁ N₁
    have hP' : vs[i]? = some v := by simpa using hP
    have hI₀ : h₀.get? s.heap.objs.size = none := next_is_new F
    have hst' : hh'.get? s.heap.objs.size = some oI := hst'
    have hmem := hall s.heap.objs.size (.head _) hI₀ _ hst'
    have hlo : hh'.get? l = some (listOf vs.toArray nn) := (N₁ _ (List.mem_append_right _ (hJl _ _ _ hJ))).1
    refine wpAny_mono (turn i v m₁ nx s.heap.objs.size oI hh' tk' hP' hJ (fun p hp e => hoff p hp (List.mem_singleton.mpr e)) F₁ (fun p hp => ?_)) (fun f s₂ p => ?_) fun _ _ e => e
    · rcases List.mem_cons.mp hp with rfl | hp
      · exact N₁ _ (List.mem_append_left _ hmem)
      · exact N₁ _ (List.mem_append_right _ hp)
    have fin : Hold (Ex4 fun h' tk m' nx' => s₂ = { s with heap := h', toks := tk } ∧ Fr h₀ env.locals h' m' ∧ News h₀ env.locals h' ((s.heap.objs.size, oI) :: nx') ∧ (∀ p ∈ nx', p.1 ≠ s.heap.objs.size) ∧ J (i + 1) m' nx') →
        LoopStepU h₀ env.locals [s.heap.objs.size] own (J (i + 1)) { s with heap := hh', toks := tk' } .next s₂ := by
      rintro ⟨h', tk, m', nx', e, F', N', hne', hm⟩
      refine ⟨rfl, h', tk, m', nx', e, F', fun p hp => ?_, fun p hp hq => hne' p hp (List.mem_singleton.mp hq), hm⟩
      rcases List.mem_append.mp hp with hp | hp
      · have h2 : hh'.get? p.1 = some p.2 := hget p hp
        rcases List.mem_cons.mp (hown p hp) with h1 | h1
        · rw [h1, hst'] at h2
          rw [show p = (s.heap.objs.size, oI) from Prod.ext h1 (Option.some.inj h2).symm]
          exact N' _ (.head _)
        · have h1 := List.mem_singleton.mp h1
          rw [h1, hlo] at h2
          rw [show p = (l, listOf vs.toArray nn) from Prod.ext h1 (Option.some.inj h2).symm]
          exact N' _ (.tail _ (hJl _ _ _ hm))
      · exact N' _ (.tail _ hp)
    cases f with
    | ret v => exact .ret p
    | brk => exact .brk p
    | next => exact .next (fin p)
    | cont => exact .cont (fin p)
  · rintro h' tk m' news' F' N' _ hJ
    exact done m' news' h' tk hJ F' N'
end
end Mine

-- deps: L6
namespace Mine
section
variable {prog : Program} {w : World} {A : Around} {E : Value → Shared → Prop} {s : Shared} {h₀ : Heap} {L D b : Addr} {m : Str → Option Value} {news news' : List (Addr × Obj)} {vs ws : List Value} {n n2 : Nat}
theorem ext_led {Q : Value → Shared → Prop} (F : Fr h₀ L s.heap m) (N : News h₀ L s.heap news) (hb : (b, listOf ws.toArray n2) ∈ news)
    (U : Upd D (listOf vs.toArray n) (listOf (vs ++ ws).toArray (n + 1)) news news') (hne : ws.length ≠ 0) (hv : vs.length ≤ 5000) (hw : ws.length ≤ 1000)
    (h : ∀ h', Fr h₀ L h' m → News h₀ L h' news' → Q .none { s with heap := h' }) : wpAny (model prog w) A (call (.builtin "list.extend") [.ref D, .ref b]) Q E s := by
  have e1 : vs.toArray.size = vs.length := by simp
  have e2 : ws.toArray.size = ws.length := by simp
  refine kl_extend (its := vs.toArray) (its2 := ws.toArray) F N hb rfl hne U ?_ (by rw [sizeLine_eq]; show vs.length ≤ _; omega) (by rw [sizeLine_eq, e1, e2]; omega) h
  unfold Builtin.List.listTooLong
  rw [sizeLine_eq, e1, e2]
  simp
  intro _
  omega
end
/-- a text's octets, told sign by sign (signs below 128, and é) -/
def u8L : List Nat → List Int
  | [] => []
  | c :: l => (if c < 128 then [(c : Int)] else [195, 169]) ++ u8L l
theorem u8L_append : ∀ l l' : List Nat, u8L (l ++ l') = u8L l ++ u8L l'
  | [], _ => rfl
  | c :: l, l' => by simp only [List.cons_append, u8L, u8L_append l l', List.append_assoc]
theorem u8L_length : ∀ l : List Nat, (u8L l).length ≤ 2 * l.length
  | [] => Nat.le_refl _
  | c :: l => by
    have := u8L_length l
    unfold u8L
    rw [List.length_append, List.length_cons]
    split <;> simp <;> omega
theorem u8L_byte : ∀ (l : List Nat) n, n ∈ u8L l → 0 ≤ n ∧ n < 256
  | [], n, h => by cases h
  | c :: l, n, h => by
    unfold u8L at h
    rcases List.mem_append.mp h with h | h
    · split at h
      · rw [List.mem_singleton.mp h]; omega
      · simp at h
        rcases h with rfl | rfl <;> omega
    · exact u8L_byte l n h
end Mine

-- deps: L7
namespace Mine
theorem strsAre_list : ∀ {l : List Str} {ys : List Value}, ys.length = l.length → (∀ (i : Nat) (y : Value), ys[i]? = some y → ∃ (c : Str) (t : Tok), l[i]? = some c ∧ y = Value.str c t) → StrsAre ys l
  | [], [], _, _ => .nil
  | [], _ :: _, h, _ => by simp at h
  | _ :: _, [], h, _ => by simp at h
  | c :: l, y :: ys, h, g => by
    obtain ⟨c', t, e, rfl⟩ := g 0 y rfl
    simp at e
    subst e
    exact .cons _ t (strsAre_list (by simpa using h) fun i y e => by
      obtain ⟨c', t, e', q⟩ := g (i + 1) y (by simpa using e)
      exact ⟨c', t, by simpa using e', q⟩)
section
open PyProof.V
variable {prog : Program} {w : World} {A : Around} {E : Value → Shared → Prop} {s : Shared} {h₀ : Heap} {L B d : Addr} {m : Str → Option Value} {news : List (Addr × Obj)} {vs : List Value} {ss : List Str} {c : Nat}
/-- list.sort of a list of texts that stands at the ledger's head -/
theorem sort_strs {Q : Value → Shared → Prop} (F : Fr h₀ L s.heap m) (N : News h₀ L s.heap ((B, listOf vs.toArray c) :: news)) (ap : ∀ q ∈ news, q.1 ≠ B) (hS : StrsAre vs ss) (h64 : vs.length < 64)
    (h : ∀ h' vs' ss' c', Fr h₀ L h' m → News h₀ L h' ((B, listOf vs'.toArray c') :: news) → StrsAre vs' ss' → ss'.Perm ss → sortedS ss' = true → Q .none { s with heap := h' }) :
    wpAny (model prog w) A (call (.builtin "list.sort") [.ref B]) Q E s := by
  have z := N (B, listOf vs.toArray c) (.head _)
  have ho : s.heap.get? B = some (seqObj "list" vs.toArray c) := z.1
  refine wpAny_call_entry PyProof.Rows.slot_list_sort ⟨_, z.1, rfl⟩ PyProof.Rows.entry_list_sort (list_sort_treeK (n := c) (vs := vs) strKind_oneLt ho hS.keysOf (fun v₁ v₂ rest e => keyKind_strs (by rw [← e]; exact hS)) h64 fun st' hp hs => ⟨.none, rfl, ?_⟩) (PyProof.Rows.args_list_sort _)
  obtain ⟨ss', h1, h2, h3⟩ := sorted_out_str hS hp hs
  generalize (Array.map (fun x => x.2) (arrOf st')) = out at h1
  have F1 : Fr h₀ L (s.heap.update B (Obj.mapSeq fun _ => (#[] : Array Value))) m := F.change (Heap.SameBut.update ..) z.2.1 z.2.2
  have N1 := ki_turn (pre := []) (post := news) (fun _ => (#[] : Array Value)) (its' := #[]) N (fun _ hp => by cases hp) ap rfl rfl
  have N2 := News.grown N1 fun _ _ e => Heap.get?_push_of_some (seqObj "tuple" vs.toArray 0) e
  have N3 := News.grown N2 fun _ _ e => Heap.get?_push_of_some (seqObj "list" #[] 0) e
  have N4 := ki_turn (pre := []) (post := news) (fun _ => out) (its' := out) N3 (fun _ hp => by cases hp) ap rfl rfl
  have F4 : Fr h₀ L ((((s.heap.update B (Obj.mapSeq fun _ => (#[] : Array Value))).push (seqObj "tuple" vs.toArray 0)).push (seqObj "list" #[] 0)).update B (Obj.mapSeq fun _ => out)) m :=
    ((F1.push (seqObj "tuple" vs.toArray 0)).push (seqObj "list" #[] 0)).change (Heap.SameBut.update ..) z.2.1 z.2.2
  obtain ⟨c', N5⟩ : ∃ c', News h₀ L (sortedHeap s.heap B vs out) ((B, listOf out c') :: news) := ⟨_, N4⟩
  refine h _ out.toList ss' c' F4 ?_ h1 h2 h3
  rw [Array.toArray_toList]
  exact N5
/-- sorted(d), of a dict whose keys are texts -/
theorem sorted_tab {ps : List (Str × Str)} {Q : Value → Shared → Prop} (hh : A.handled = none) (F : Fr h₀ L s.heap m) (N : News h₀ L s.heap news) (Ta : TabAt (PySem.strKind prog w) PyData.str s.heap d (ps.map fun p => (.str p.1, .str p.2))) (hn : ps.length ≤ 50)
    (h : ∀ (B : Addr) h' tk vs' ss' c', Fr h₀ L h' m → News h₀ L h' ((B, listOf vs'.toArray c') :: news) → AllLt B news → StrsAre vs' ss' → ss'.Perm (ps.map (·.1)) → sortedS ss' = true → Q (.ref B) { s with heap := h', toks := tk }) :
    wpAny (model prog w) A (call (.builtin "sorted") [.ref d]) Q E s := by
  obtain ⟨lo, kvs, hD, hf⟩ := Ta
  obtain ⟨ep, hat⟩ := hD.dictAt
  have hlen : kvs.length = ps.length := by rw [← hf.length, List.length_map]
  refine kdu_sorted (kdl_dict (knd := PySem.strKind prog w) (kvs := kvs) (ep := ep) lo) hh F N hat (by rw [hlen, sizeLine_eq]; omega) fun B h' tk vs F' N' l1 hl hv => ?_
  have hS : StrsAre vs (ps.map (·.1)) := by
    refine strsAre_list (by rw [hl, hlen, List.length_map]) fun j u hu => ?_
    obtain ⟨k, x, hx, hk⟩ := hv j u hu
    obtain ⟨dv, hd, _⟩ := hf.at hx
    obtain ⟨t, rfl⟩ := Value.isStrOf_shape hk
    rw [List.getElem?_map] at hd
    cases hp : ps[j]? with
    | none => rw [hp] at hd; cases hd
    | some p =>
      rw [hp] at hd
      simp at hd
      exact ⟨_, t, by rw [List.getElem?_map, hp]; rfl, by rw [← hd.1]⟩
  refine sort_strs F' N' (fun q hq e => absurd (l1 q hq) (by rw [e]; exact Nat.lt_irrefl _)) hS (by rw [hl, hlen]; omega) fun h'' vs' ss' c' F'' N'' hS' hp hs => h _ _ _ _ _ _ F'' N'' (allLt_of l1) hS' hp hs
end
theorem risingS_pairwise : ∀ (p : Str) (l : List Str), risingS p l = true → (p :: l).Pairwise (fun a b => a.cps.toList ≤ b.cps.toList)
  | p, [], _ => by simp
  | p, x :: r, h => by
    have h : (!ltCps x.cps.toList p.cps.toList && risingS x r) = true := h
    rw [Bool.and_eq_true, Bool.not_eq_true', ltCps_eq, decide_eq_false_iff_not] at h
    have hr := risingS_pairwise x r h.2
    have hpx : p.cps.toList ≤ x.cps.toList := List.not_lt.mp h.1
    refine List.pairwise_cons.mpr ⟨fun y hy => ?_, hr⟩
    rcases List.mem_cons.mp hy with rfl | hy
    · exact hpx
    · exact List.le_trans hpx ((List.pairwise_cons.mp hr).1 y hy)
theorem sortedS_pairwise : ∀ (l : List Str), sortedS l = true → l.Pairwise (fun a b => a.cps.toList ≤ b.cps.toList)
  | [], _ => .nil
  | x :: r, h => risingS_pairwise x r h
theorem sorted_uniq {a b : List Str} (hp : a.Perm b) (ha : sortedS a = true) (hb : sortedS b = true) : a = b :=
  hp.eq_of_pairwise (le := fun (a b : Str) => a.cps.toList ≤ b.cps.toList) (fun x y _ _ h1 h2 => by
    have e := List.le_antisymm h1 h2
    cases x; cases y
    simp only at e
    rw [Array.toList_inj.mp e]) (sortedS_pairwise a ha) (sortedS_pairwise b hb)
end Mine

-- deps: L8 L4
namespace Mine
/-- the values are octets, these ones -/
inductive BytsAre : List Value → List (Array UInt8) → Prop
  | nil : BytsAre [] []
  | cons (b : Array UInt8) (t : Tok) {vs bs} : BytsAre vs bs → BytsAre (.bytes b t :: vs) (b :: bs)
theorem BytsAre.append : ∀ {vs ws : List Value} {bs cs : List (Array UInt8)}, BytsAre vs bs → BytsAre ws cs → BytsAre (vs ++ ws) (bs ++ cs)
  | _, _, _, _, .nil, h => h
  | _, _, _, _, .cons b t r, h => .cons b t (r.append h)
theorem BytsAre.length : ∀ {vs : List Value} {bs : List (Array UInt8)}, BytsAre vs bs → vs.length = bs.length
  | _, _, .nil => rfl
  | _, _, .cons b t r => congrArg (· + 1) r.length
theorem BytsAre.at : ∀ {vs : List Value} {bs : List (Array UInt8)}, BytsAre vs bs → ∀ (i : Nat) (h : i < vs.length), ∃ b t, vs[i] = .bytes b t ∧ bs[i]? = some b
  | _, _, .nil, i, h => absurd h (by simp)
  | _, _, .cons b t r, 0, _ => ⟨b, t, rfl, rfl⟩
  | _, _, .cons b t r, i + 1, h => by
    obtain ⟨b', t', e1, e2⟩ := r.at i (by simpa using h)
    exact ⟨b', t', by simpa using e1, by simpa using e2⟩
section
open PySem.SeqAt PyProof.V
variable {prog : Program} {w : World} {A : Around} {E : Value → Shared → Prop} {s : Shared} {h₀ : Heap} {L : Addr} {m : Str → Option Value} {news : List (Addr × Obj)}
theorem eqAt_bytes (b : Array UInt8) (t u : Tok) : EqAt A s (.bytes b t) (.bytes b u) true := fun prog w E Q h => by
  unfold eqBool
  refine wpAny_holding ?_
  refine wpAny_ite_split (fun _ => ?_) (fun _ => ?_)
  · exact wpAny_bind (wpAny_rule (wpAny_pure h))
  · exact wpAny_bind (richCompare_gives (op := .Eq) (T := "bytes") rfl rfl FB.slot_bytes_eq FB.entry_bytes_eq (FB.args_bytes_eq_2 _ _) (gives_bytes_eq b b t u) (fun x => nomatch x) (wpAny_truthy_bool (by rw [beq_self_eq_true]; exact h)))
/-- two lists of the same octets are equal -/
theorem eqAt_lists {a b : Addr} {vs ws : List Value} {bs : List (Array UInt8)} (hne : a ≠ b) (ha : s.heap.IsList a vs.toArray) (hb : s.heap.IsList b ws.toArray) (hv : BytsAre vs bs) (hw : BytsAre ws bs) (hu : A.units < cLine) :
    EqAt A s (.ref a) (.ref b) true := by
  have hl : vs.length = ws.length := hv.length.trans hw.length.symm
  have q := RcAt.lists (A := A) (s := s) (e := fun _ => true) ha hb (by simpa using hl) hu fun j h1 h2 => by
    obtain ⟨x, t, e1, e2⟩ := hv.at j (by simpa using h1)
    obtain ⟨y, u, e3, e4⟩ := hw.at j (by simpa using h2)
    rw [e2] at e4
    cases e4
    simp only [List.getElem_toArray, e1, e3]
    exact eqAt_bytes _ _ _
  have e : (List.range vs.toArray.size).all (fun _ => true) = true := by simp
  rw [e] at q
  exact EqAt.of_refs hne q
/-- a list is (or is not) the empty list -/
theorem eq_nil_led {a b : Addr} {vs : List Value} {k k2 : Nat} {r : Bool} {Q : Value → Shared → Prop} (N : News h₀ L s.heap news) (ha : (a, listOf vs.toArray k) ∈ news) (hb : (b, listOf #[] k2) ∈ news) (hu : A.units < cLine) (hr : vs.isEmpty = r)
    (h : Q (.bool r) s) : wpAny (model prog w) A (compareOp .Eq (.ref a) (.ref b)) Q E s := by
  have la : s.heap.IsList a vs.toArray := ⟨_, (N _ ha).1, rfl, k, rfl⟩
  have lb : s.heap.IsList b #[] := ⟨_, (N _ hb).1, rfl, k2, rfl⟩
  cases vs with
  | nil => subst hr; exact eq_listAt (e := fun _ => true) la lb rfl hu (fun j h1 _ => absurd h1 (by simp)) h
  | cons x r' => subst hr; exact eq_list_lengthsAt la lb (by simp) hu h
theorem tab_led {K : Type} [DecidableEq K] {knd : KeyKind prog w K} {enc : K → PyData} {pd : Addr} {po : Obj} {kvs : List (K × Value)} {D : List (PyData × PyData)} {h : Heap} (N : News h₀ L h news) (hm : (pd, po) ∈ news) (lo : (pd == sysModules) = false) (hd : po.IsDictOf knd kvs) (hf : FlatPairs enc kvs D) : TabAt knd enc h pd D :=
  ⟨lo, kvs, Heap.dictOf_iff.mpr ⟨po, (N _ hm).1, hd⟩, hf⟩
end
/-- the law's parameters, as drawn (ps) and as sorted (sp) -/
def menuS : List (Str × Str) := [(Str.ofString "a", Str.ofString "é"), (Str.ofString "b", Str.ofString "x y"), (Str.ofString "charset", Str.ofString "utf-8"), (Str.ofString "name", Str.ofString "")]
structure ParOk (ps sp : List (Str × Str)) : Prop where
  len : ps.length ≤ 4
  perm : (sp.map (·.1)).Perm (ps.map (·.1))
  sorted : sortedS (sp.map (·.1)) = true
  look : ∀ p ∈ sp, PySem.Spec.lookup (PyData.str p.1) (ps.map fun q => (PyData.str q.1, PyData.str q.2)) = some (.str p.2)
  menu : ∀ p ∈ sp, p ∈ menuS
/-- the octets of the sorted parameters -/
def flatB : List (Str × Str) → List (Array UInt8)
  | [] => []
  | p :: r => octS p.1 :: byteArr (u8L p.2.cps.toList) :: flatB r
theorem flatB_append : ∀ a b, flatB (a ++ b) = flatB a ++ flatB b
  | [], _ => rfl
  | p :: a, b => by simp only [List.cons_append, flatB, flatB_append a b]
theorem flatB_length : ∀ a, (flatB a).length = 2 * a.length
  | [] => rfl
  | p :: a => by simp only [flatB, List.length_cons, flatB_length a]; omega
theorem menu_name {p : Str × Str} (h : p ∈ menuS) : (∀ c ∈ p.1.cps, c < 256) ∧ p.1.cps.size ≤ 1000 ∧ (∀ c ∈ p.2.cps, c < 128 ∨ c = 233) ∧ p.2.cps.size ≤ 1000 := by
  simp only [menuS, List.mem_cons, List.mem_nil_iff, or_false] at h
  rcases h with rfl | rfl | rfl | rfl <;> exact ⟨by decide +kernel, by decide +kernel, by decide +kernel, by decide +kernel⟩
end Mine

-- deps: L9
namespace Mine
section
variable {prog : Program} {w : World} {A : Around} {E : Value → Shared → Prop} {s : Shared} {h₀ : Heap} {L D : Addr} {m : Str → Option Value} {news : List (Addr × Obj)} {a b : Value} {x : Int} {t u : Tok} {k : Nat}
/-- the second item of a list of two, at the ledger's head, is set -/
theorem set_two {Q : Unit → Shared → Prop} (F : Fr h₀ L s.heap m) (N : News h₀ L s.heap ((D, listOf #[a, b] k) :: news)) (ap : ∀ p ∈ news, p.1 ≠ D)
    (h : ∀ h', Fr h₀ L h' m → News h₀ L h' ((D, listOf #[a, .int x u] k) :: news) → Q () { s with heap := h' }) :
    wpAny (model prog w) A (setItem (.ref D) (.int 1 t) (.int x u)) Q E s := by
  have z := N (D, listOf #[a, b] k) (.head _)
  refine ki_setAt z.1 (by decide) (by decide) (by simp) (h _ (F.change (Heap.SameBut.update ..) z.2.1 z.2.2) ?_)
  exact ki_turn (pre := []) (post := news) (fun x' => x'.setIfInBounds (Int.toNat 1) (.int x u)) N (fun _ hp => by cases hp) ap rfl rfl
end
section
variable {h₀ h : Heap} {L D : Addr} {news news' : List (Addr × Obj)} {o o' : Obj}
theorem Upd.core (U : Upd D o o' news news') : ∃ rest, (∀ p ∈ rest, p.1 ≠ D) ∧ (∀ p, p ∈ (D, o) :: rest ↔ p ∈ news) ∧ (∀ p, p ∈ (D, o') :: rest ↔ p ∈ news') := by
  obtain ⟨pre, post, rfl, rfl, a, b⟩ := U.split
  refine ⟨pre ++ post, fun p hp => (List.mem_append.mp hp).elim (a p) (b p), fun p => ?_, fun p => ?_⟩ <;>
    simp only [List.mem_cons, List.mem_append] <;> grind
end
end Mine

-- deps: Head L1
namespace Mine
def lowN (c : Nat) : Nat := if 65 ≤ c ∧ c ≤ 90 then c + 32 else c
theorem lowN_le (c : Nat) : lowN c ≤ c + 32 := by unfold lowN; split <;> omega
section
variable {w : World} {p : Program} {loose : List Str} {mean : ExcName → Option Value} {mg mb : Str → Option Value} {dp un : Nat} {gd : Option (List Code)} {cn : Str} {cs : Scope} {a : Addr} {ccd : Value} {cl : List (Str × Addr)} {outer : List Env} {A₀ : Around} {base h₀ : Heap} {L : Addr} {m : Str → Option Value} {news : List (Addr × Obj)} {s : Shared} {Q E : Value → Shared → Prop}
theorem lower_code_c {c : Nat} {t : Tok} : Below A₀ base outer h₀ → Fr h₀ L s.heap m → (hd.heap_1 w.params).In h₀ → News h₀ L s.heap (news) → Top p loose mean mg mb h₀ → cs.kind = .function → dp + 1 < recursionLimit → un + 8 < cLine →
   (∀ t' h' tk', Fr h₀ L h' m → News h₀ L h' news → Q (.int (lowN c : Nat) t') { s with heap := h', toks := tk' }) →
   wpAny (model PySem.Challenge.rw_or0047_01.row.prog w) (ktrTop dp un gd cn cs L a ccd cl outer) (call (.ref 119) [.int (c : Nat) t]) Q E s := by
  k_with_none
  w_top off
  k_fill
  intro B F X N T hk hdp hun hret
  refine wpAny_call ?_
  k_dflt cell_enter
  k_steps
  all_goals (refine cb_retI hret ?_ (by k_asm) (by k_asm))
  all_goals (unfold lowN; split <;> omega)
end
end Mine

-- deps: C1
namespace Mine
def lowS (x : Str) : Str := ⟨x.cps.map lowN⟩
section
variable {w : World} {p : Program} {loose : List Str} {mean : ExcName → Option Value} {mg mb : Str → Option Value} {dp un : Nat} {gd : Option (List Code)} {cn : Str} {cs : Scope} {a : Addr} {ccd : Value} {cl : List (Str × Addr)} {outer : List Env} {A₀ : Around} {base h₀ : Heap} {L : Addr} {m : Str → Option Value} {news : List (Addr × Obj)} {s : Shared} {Q E : Value → Shared → Prop}
theorem lower_text_c {x : Str} {t : Tok} (hx : ∀ c ∈ x.cps, c < 1114000) (hn : x.cps.size ≤ 1000) : Below A₀ base outer h₀ → Fr h₀ L s.heap m → (hd.heap_1 w.params).In h₀ → News h₀ L s.heap (news) → Top p loose mean mg mb h₀ → cs.kind = .function → dp + 2 < recursionLimit → un + 16 < cLine →
   (∀ t' h' tk', Fr h₀ L h' m → News h₀ L h' news → Q (.str (lowS x) t') { s with heap := h', toks := tk' }) →
   wpAny (model PySem.Challenge.rw_or0047_01.row.prog w) (ktrTop dp un gd cn cs L a ccd cl outer) (call (.ref 124) [.str x t]) Q E s := by
  k_with_none
  w_top off
  (k_with "call ref" => (k_here; (with_reducible show wpAny _ _ (call (Value.ref 119) _) _ _ _); k_dflt (refine' lower_code_c ?k1Zr ?k2Zr ?k3Zr ?k4Zr ?k5Zr ?kKZr ?kdZr ?kuZr ?_; (case k1Zr => k_asm); (case k2Zr => k_asm); (case k3Zr => k_asm); (case k4Zr => k_asm); (case k5Zr => k_asm); (case kKZr => first | exact rfl | assumption); (case kdZr => ktr_room); (case kuZr => ktr_units); intro _ _ _ _ _)))
  (k_with "eval ListComp" => (k_here; k_dflt (refine comp_T (by k_asm) (by rfl) (by decide) (by rfl) (by decide) (by rfl) ?_)))
  k_fill
  intro B F X N T hk hdp hun hret
  (k_dflt (refine' enter_def [Str.ofString "text"] ?k1 ?k2 ?k3 ?k4 ?k5 ?kA ?kF ?kK ?k6 ?k7 ?k8 ?k9 ?kB ?_ ?c2 ?c3 ?c4 ?c5; (case kA => exact rfl); (case kF => exact rfl); (case kK => first | exact rfl | assumption); (case k1 => k_asm); (case k2 => k_asm); (case k3 => k_asm); (case k4 => k_asm); (case k5 => k_asm); (case k6 => k_is); (case k7 => k_is); (case k8 => ktr_room); (case k9 => exact BindsTo.of_eq rfl); (case c5 => decide); (case kB => exact locs rfl); (case c2 => exact rfl); (case c3 => exact rfl); (case c4 => exact rfl); k_whole; intro g' L' h' FG' F' N' B' X' T'; (try dsimp only [List.zip_cons_cons, List.zip_nil_right, List.zipWith]); (try k_lift B'); (try k_fold)))
  k_steps
  refine Hold.of ⟨x.cps.size, _, news, fun i y => ∃ (c : Nat) (t : Tok), x.cps.toList[i]? = some c ∧ y = .str ⟨#[lowN c]⟩ t, src_str rfl, by k_asm, by k_asm, by rw [sizeLine_eq]; omega, ?_, ?_⟩
  · intro i v I oI C oC D m₂ ys h tk E' hi hv hC hx' F' N' off ne
    obtain ⟨c, u, hc, rfl⟩ := hv
    have hc' := hx c (by obtain ⟨q, rfl⟩ := Array.getElem?_eq_some_iff.mp hc; exact Array.getElem_mem q)
    have := lowN_le c
    k_steps
    exact ⟨⟨c, _, by simpa using hc, rfl⟩, _, _, rfl, by k_asm, by k_asm⟩
  · intro D ys h tk hl hg F' N' off
    have hS := strsAre_of (f := fun c => (⟨#[lowN c]⟩ : Str)) (l := x.cps.toList) (by rw [hl]; simp) hg
    k_steps
    refine' join_listW (ys := x.cps.toList.map fun c => ⟨#[lowN c]⟩) ?j1 hS ?j2 (signs_weight lowN _ (by simp; omega)) ?_
    case j1 => exact N'.isList (by k_mem)
    case j2 => decide
    intro t' k
    have e : Txt.join (Str.ofString "") (x.cps.toList.map fun c => (⟨#[lowN c]⟩ : Str)) = lowS x := by
      have := join_signs (Str.ofString "") (by decide) (x.cps.toList.map lowN)
      rw [List.map_map] at this
      refine this.trans ?_
      unfold lowS
      congr 1
      apply Array.ext'
      simp
    rw [e]
    k_steps
    refine hret _ _ _ (by k_asm) ?_
    refine' cb_drop ?n1 ?n2
    case n1 => assumption
    case n2 => exact fun p hp => .tail _ hp
end
end Mine

-- deps: C2 L3
namespace Mine
/-- the text of a field's name in small letters -/
def wordOf (b : Array UInt8) : Str := lowS ⟨b.map (·.toNat)⟩
theorem bytes_cps {b : Array UInt8} : ∀ c ∈ (⟨b.map (·.toNat)⟩ : Str).cps, c < 1114000 := fun c hc => by
  obtain ⟨x, _, rfl⟩ := Array.mem_map.mp hc
  have := UInt8.toNat_lt x
  omega
section
variable {w : World} {p : Program} {loose : List Str} {mean : ExcName → Option Value} {mg mb : Str → Option Value} {dp un : Nat} {gd : Option (List Code)} {cn : Str} {cs : Scope} {a : Addr} {ccd : Value} {cl : List (Str × Addr)} {outer : List Env} {A₀ : Around} {base h₀ : Heap} {L : Addr} {m : Str → Option Value} {news : List (Addr × Obj)} {s : Shared} {Q E : Value → Shared → Prop}
theorem word_c {fr fd : Addr} {kh1 kh2 : Int} {kt1 kt2 nt rt : Tok} {k : Nat} {nm rw : Array UInt8} (hnm : nm.size ≤ 1000) (h1 : (fr, instObj 153 fd) ∈ news)
   (h2 : (fd, dictOf [⟨kh1, .str (Str.ofString "name") kt1, .bytes nm nt⟩, ⟨kh2, .str (Str.ofString "raw") kt2, .bytes rw rt⟩] k) ∈ news) : Below A₀ base outer h₀ → Fr h₀ L s.heap m → (hd.heap_1 w.params).In h₀ → News h₀ L s.heap (news) → Top p loose mean mg mb h₀ → cs.kind = .function → dp + 3 < recursionLimit → un + 24 < cLine →
   (∀ t' h' tk', Fr h₀ L h' m → News h₀ L h' news → Q (.str (wordOf nm) t') { s with heap := h', toks := tk' }) →
   wpAny (model PySem.Challenge.rw_or0047_01.row.prog w) (ktrTop dp un gd cn cs L a ccd cl outer) (call (.ref 143) [.ref fr]) Q E s := by
  k_with_none
  w_top off
  (k_with "call ref" => (k_here; (with_reducible show wpAny _ _ (call (Value.ref 124) _) _ _ _); k_dflt (refine' lower_text_c ?haZr ?hbZr ?k1Zr ?k2Zr ?k3Zr ?k4Zr ?k5Zr ?kKZr ?kdZr ?kuZr ?_; (case k1Zr => k_asm); (case k2Zr => k_asm); (case k3Zr => k_asm); (case k4Zr => k_asm); (case k5Zr => k_asm); (case kKZr => first | exact rfl | assumption); (case kdZr => ktr_room); (case kuZr => ktr_units); (case haZr => exact bytes_cps); (case hbZr => (simp; omega)); intro _ _ _ _ _)))
  (k_with "eval ListComp" => (k_here; k_dflt (refine comp_B (by k_asm) (by rfl) (by decide) (by rfl) (by decide) (by rfl) ?_)))
  (k_with "call builtin:str.join" => (k_here; refine' join_signsB ?hlZr ?hSZr ?hbZr ?_; (case hSZr => assumption); (case hlZr => exact News.isList (by assumption) (by k_mem)); (case hbZr => omega); intro _ _))
  k_fill
  intro B F X N T hk hdp hun hret
  (k_dflt (refine' enter_def [Str.ofString "self"] ?k1 ?k2 ?k3 ?k4 ?k5 ?kA ?kF ?kK ?k6 ?k7 ?k8 ?k9 ?kB ?_ ?c2 ?c3 ?c4 ?c5; (case kA => exact rfl); (case kF => exact rfl); (case kK => first | exact rfl | assumption); (case k1 => k_asm); (case k2 => k_asm); (case k3 => k_asm); (case k4 => k_asm); (case k5 => k_asm); (case k6 => k_is); (case k7 => k_is); (case k8 => ktr_room); (case k9 => exact BindsTo.of_eq rfl); (case c5 => decide); (case kB => exact locs rfl); (case c2 => exact rfl); (case c3 => exact rfl); (case c4 => exact rfl); k_whole; intro g' L' h' FG' F' N' B' X' T'; (try dsimp only [List.zip_cons_cons, List.zip_nil_right, List.zipWith]); (try k_lift B'); (try k_fold)))
  k_steps
  refine Hold.of ⟨_, _, news, rfl, rfl, by k_asm, by k_asm, by rw [sizeLine_eq]; omega, ?_, ?_⟩
  · intro c u I oI C oC D m₂ ys h tk E' hC hx' hc F' N' off ne
    k_steps
    exact ⟨⟨_, rfl⟩, _, _, rfl, by k_asm, by k_asm⟩
  · intro D ys h tk hS F' N' off
    k_steps
    exact hret _ _ _ (by k_asm) (cb_drop (by assumption) (fun p hp => .tail _ hp))
end
end Mine

-- deps: Head L1 L2
namespace Mine
section
variable {w : World} {p : Program} {loose : List Str} {mean : ExcName → Option Value} {mg mb : Str → Option Value} {dp un : Nat} {gd : Option (List Code)} {cn : Str} {cs : Scope} {a : Addr} {ccd : Value} {cl : List (Str × Addr)} {outer : List Env} {A₀ : Around} {base h₀ : Heap} {L : Addr} {m : Str → Option Value} {news : List (Addr × Obj)} {s : Shared} {Q E : Value → Shared → Prop}
section
theorem unf2 {t : Tok} : Below A₀ base outer h₀ → Fr h₀ L s.heap m → (hd.heap_1 w.params).In h₀ → News h₀ L s.heap (news) → Top p loose mean mg mb h₀ → cs.kind = .function → dp + 3 < recursionLimit → un + 24 < cLine →
   (∀ t' h' tk', Fr h₀ L h' m → News h₀ L h' news → Q (.bytes [97, 32, 98].toArray t') { s with heap := h', toks := tk' }) →
   wpAny (model PySem.Challenge.rw_or0047_01.row.prog w) (ktrTop dp un gd cn cs L a ccd cl outer) (call (.ref 178) [.bytes [32, 97, 13, 10, 32, 98].toArray t]) Q E s := by
  k_with_none
  w_top off
  (k_with "call ref" => (k_here; (with_reducible show wpAny _ _ (call (Value.ref 171) _) _ _ _); k_dflt (refine' enter_def [Str.ofString "raw"] ?k1Zr ?k2Zr ?k3Zr ?k4Zr ?k5Zr ?kAZr ?kFZr ?kKZr ?k6Zr ?k7Zr ?k8Zr ?k9Zr ?kBZr ?_ ?c2Zr ?c3Zr ?c4Zr ?c5Zr; (case kAZr => exact rfl); (case kFZr => exact rfl); (case kKZr => first | exact rfl | assumption); (case k1Zr => k_asm); (case k2Zr => k_asm); (case k3Zr => k_asm); (case k4Zr => k_asm); (case k5Zr => k_asm); (case k6Zr => k_is); (case k7Zr => k_is); (case k8Zr => ktr_room); (case k9Zr => exact BindsTo.of_eq rfl); (case c5Zr => decide); (case kBZr => exact locs rfl); (case c2Zr => exact rfl); (case c3Zr => exact rfl); (case c4Zr => exact rfl); k_whole; intro _ _ _ _ _ _ B' _ _; (try dsimp only [List.zip_cons_cons, List.zip_nil_right, List.zipWith]); (try k_lift B'); (try k_fold))))
  (k_with "call ref" => (k_here; (with_reducible show wpAny _ _ (call (Value.ref 164) _) _ _ _); k_dflt (refine' enter_def [Str.ofString "data", Str.ofString "at", Str.ofString "end"] ?k1Zr ?k2Zr ?k3Zr ?k4Zr ?k5Zr ?kAZr ?kFZr ?kKZr ?k6Zr ?k7Zr ?k8Zr ?k9Zr ?kBZr ?_ ?c2Zr ?c3Zr ?c4Zr ?c5Zr; (case kAZr => exact rfl); (case kFZr => exact rfl); (case kKZr => first | exact rfl | assumption); (case k1Zr => k_asm); (case k2Zr => k_asm); (case k3Zr => k_asm); (case k4Zr => k_asm); (case k5Zr => k_asm); (case k6Zr => k_is); (case k7Zr => k_is); (case k8Zr => ktr_room); (case k9Zr => exact BindsTo.of_eq rfl); (case c5Zr => decide); (case kBZr => exact locs rfl); (case c2Zr => exact rfl); (case c3Zr => exact rfl); (case c4Zr => exact rfl); k_whole; intro _ _ _ _ _ _ B' _ _; (try dsimp only [List.zip_cons_cons, List.zip_nil_right, List.zipWith]); (try k_lift B'); (try k_fold))))
  (k_with "getMethod bytes" => (k_here; first | refine meth_bytes slot_find type_find ?_ | refine meth_bytes slot_strip type_strip ?_ | refine meth_bytes slot_join type_join ?_))
  (k_with "call builtin:bytes.find" => (k_here; first | refine find_bytes (k := -1) (by decide +kernel) ?_ | refine find_bytes (k := 3) (by decide +kernel) ?_))
  (k_with "call builtin:bytes.join" => (k_here; first | (refine' join_one ?hlZr ?_; (case hlZr => exact News.get (by assumption) (by k_mem))) | (refine' join_two ?hlZr ?hbZr ?hzZr ?_; (case hlZr => exact News.get (by assumption) (by k_mem)); (case hbZr => rfl); (case hzZr => decide +kernel); intro _ _)))
  (k_with "call builtin:bytes.strip" => (k_here; first | (refine strip_bytes (k := []) (by decide +kernel) (by decide +kernel) ?_; intro t9 tk9) | (refine strip_bytes (k := [97, 32, 98]) (by decide +kernel) (by decide +kernel) ?_; intro t9 tk9) | (refine strip_bytes (k := [60, 97, 64, 98, 62]) (by decide +kernel) (by decide +kernel) ?_; intro t9 tk9) | (refine strip_bytes (k := [66, 65, 83, 69, 54, 52, 32, 40, 120, 41]) (by decide +kernel) (by decide +kernel) ?_; intro t9 tk9)))
  (k_with "subscriptTail" => (k_here; (with_reducible show wpAny _ _ (subscriptTail _ (Expr.Slice _ _ none _) (Value.bytes _ _) (Value.ref _)) _ _ _); (refine KBc.slice_K (s := ⟨_, _, _, _, _⟩) (by assumption) (by assumption) rfl (by constructor) (by constructor) (by rw [KBw.ints_length]; decide +kernel) ?_); intro _ _ _ _ _ _))
  k_fill
  intro B F X N T hk hdp hun hret
  (k_dflt (refine' enter_def [Str.ofString "raw"] ?k1 ?k2 ?k3 ?k4 ?k5 ?kA ?kF ?kK ?k6 ?k7 ?k8 ?k9 ?kB ?_ ?c2 ?c3 ?c4 ?c5; (case kA => exact rfl); (case kF => exact rfl); (case kK => first | exact rfl | assumption); (case k1 => k_asm); (case k2 => k_asm); (case k3 => k_asm); (case k4 => k_asm); (case k5 => k_asm); (case k6 => k_is); (case k7 => k_is); (case k8 => ktr_room); (case k9 => exact BindsTo.of_eq rfl); (case c5 => decide); (case kB => exact locs rfl); (case c2 => exact rfl); (case c3 => exact rfl); (case c4 => exact rfl); k_whole; intro g' L' h' FG' F' N' B' X' T'; (try dsimp only [List.zip_cons_cons, List.zip_nil_right, List.zipWith]); (try k_lift B'); (try k_fold)))
  k_steps
  exact hret _ _ _ (by k_asm) (cb_drop (by assumption) (by kcj_all))
end
section
theorem eq_same {prog : Program} {w : World} {A : Around} {E : Value → Shared → Prop} {s : Shared} {a : Int} {t u : Tok} {Q : Value → Shared → Prop} (h : Q (.bool true) s) : wpAny (model prog w) A (compareOp .Eq (.int a t) (.int a u)) Q E s := by
  refine eq_int ?_
  rw [beq_self_eq_true]
  exact h
section
/-- a text of one row is itself, its ends taken off -/
theorem unfN {b : Array UInt8} {k : List UInt8} {t : Tok} (hf : findAt b #[10] 0 (b.size : Int) = -1) (hp : KBy.picked b (some 0) (some (b.size : Int)) = b) (hs : stripOf b #[32, 9] = k) (hz : b.size ≤ 1000) : Below A₀ base outer h₀ → Fr h₀ L s.heap m → (hd.heap_1 w.params).In h₀ → News h₀ L s.heap (news) → Top p loose mean mg mb h₀ → cs.kind = .function → dp + 3 < recursionLimit → un + 24 < cLine →
   (∀ t' h' tk', Fr h₀ L h' m → News h₀ L h' news → Q (.bytes k.toArray t') { s with heap := h', toks := tk' }) →
   wpAny (model PySem.Challenge.rw_or0047_01.row.prog w) (ktrTop dp un gd cn cs L a ccd cl outer) (call (.ref 178) [.bytes b t]) Q E s := by
  k_with_none
  w_top off
  (k_with "call ref" => (k_here; (with_reducible show wpAny _ _ (call (Value.ref 171) _) _ _ _); k_dflt (refine' enter_def [Str.ofString "raw"] ?k1Zr ?k2Zr ?k3Zr ?k4Zr ?k5Zr ?kAZr ?kFZr ?kKZr ?k6Zr ?k7Zr ?k8Zr ?k9Zr ?kBZr ?_ ?c2Zr ?c3Zr ?c4Zr ?c5Zr; (case kAZr => exact rfl); (case kFZr => exact rfl); (case kKZr => first | exact rfl | assumption); (case k1Zr => k_asm); (case k2Zr => k_asm); (case k3Zr => k_asm); (case k4Zr => k_asm); (case k5Zr => k_asm); (case k6Zr => k_is); (case k7Zr => k_is); (case k8Zr => ktr_room); (case k9Zr => exact BindsTo.of_eq rfl); (case c5Zr => decide); (case kBZr => exact locs rfl); (case c2Zr => exact rfl); (case c3Zr => exact rfl); (case c4Zr => exact rfl); k_whole; intro _ _ _ _ _ _ B' _ _; (try dsimp only [List.zip_cons_cons, List.zip_nil_right, List.zipWith]); (try k_lift B'); (try k_fold))))
  (k_with "call ref" => (k_here; (with_reducible show wpAny _ _ (call (Value.ref 164) _) _ _ _); k_dflt (refine' enter_def [Str.ofString "data", Str.ofString "at", Str.ofString "end"] ?k1Zr ?k2Zr ?k3Zr ?k4Zr ?k5Zr ?kAZr ?kFZr ?kKZr ?k6Zr ?k7Zr ?k8Zr ?k9Zr ?kBZr ?_ ?c2Zr ?c3Zr ?c4Zr ?c5Zr; (case kAZr => exact rfl); (case kFZr => exact rfl); (case kKZr => first | exact rfl | assumption); (case k1Zr => k_asm); (case k2Zr => k_asm); (case k3Zr => k_asm); (case k4Zr => k_asm); (case k5Zr => k_asm); (case k6Zr => k_is); (case k7Zr => k_is); (case k8Zr => ktr_room); (case k9Zr => exact BindsTo.of_eq rfl); (case c5Zr => decide); (case kBZr => exact locs rfl); (case c2Zr => exact rfl); (case c3Zr => exact rfl); (case c4Zr => exact rfl); k_whole; intro _ _ _ _ _ _ B' _ _; (try dsimp only [List.zip_cons_cons, List.zip_nil_right, List.zipWith]); (try k_lift B'); (try k_fold))))
  (k_with "getMethod bytes" => (k_here; first | refine meth_bytes slot_find type_find ?_ | refine meth_bytes slot_strip type_strip ?_ | refine meth_bytes slot_join type_join ?_))
  (k_with "call builtin:bytes.find" => (k_here; refine find_bytes (k := -1) hf ?_))
  (k_with "call builtin:bytes.join" => (k_here; refine' join_one ?hlZr ?_; (case hlZr => exact News.get (by assumption) (by k_mem))))
  (k_with "call builtin:bytes.strip" => (k_here; refine strip_bytes hs (by omega) ?_; intro _ _))
  (k_with "subscriptTail" => (k_here; (with_reducible show wpAny _ _ (subscriptTail _ (Expr.Slice _ _ none _) (Value.bytes _ _) (Value.ref _)) _ _ _); (refine KBc.slice_K (s := ⟨_, _, _, _, _⟩) (by assumption) (by assumption) rfl (by constructor) (by constructor) (by rw [KBw.ints_length]; omega) ?_); (intro _ _ _ _ _ _; rw [hp])))
  (k_with "compareOp Eq int int" => (k_here; refine eq_same ?_))
  k_fill
  intro B F X N T hk hdp hun hret
  (k_dflt (refine' enter_def [Str.ofString "raw"] ?k1 ?k2 ?k3 ?k4 ?k5 ?kA ?kF ?kK ?k6 ?k7 ?k8 ?k9 ?kB ?_ ?c2 ?c3 ?c4 ?c5; (case kA => exact rfl); (case kF => exact rfl); (case kK => first | exact rfl | assumption); (case k1 => k_asm); (case k2 => k_asm); (case k3 => k_asm); (case k4 => k_asm); (case k5 => k_asm); (case k6 => k_is); (case k7 => k_is); (case k8 => ktr_room); (case k9 => exact BindsTo.of_eq rfl); (case c5 => decide); (case kB => exact locs rfl); (case c2 => exact rfl); (case c3 => exact rfl); (case c4 => exact rfl); k_whole; intro g' L' h' FG' F' N' B' X' T'; (try dsimp only [List.zip_cons_cons, List.zip_nil_right, List.zipWith]); (try k_lift B'); (try k_fold)))
  k_steps
  exact hret _ _ _ (by k_asm) (cb_drop (by assumption) (by kcj_all))
end
end
theorem unf1 {t : Tok} : Below A₀ base outer h₀ → Fr h₀ L s.heap m → (hd.heap_1 w.params).In h₀ → News h₀ L s.heap (news) → Top p loose mean mg mb h₀ → cs.kind = .function → dp + 3 < recursionLimit → un + 24 < cLine →
   (∀ t' h' tk', Fr h₀ L h' m → News h₀ L h' news → Q (.bytes [60, 97, 64, 98, 62].toArray t') { s with heap := h', toks := tk' }) →
   wpAny (model PySem.Challenge.rw_or0047_01.row.prog w) (ktrTop dp un gd cn cs L a ccd cl outer) (call (.ref 178) [.bytes [32, 60, 97, 64, 98, 62].toArray t]) Q E s :=
  unfN (by decide +kernel) (by decide +kernel) (by decide +kernel) (by decide)
theorem unf3 {t : Tok} : Below A₀ base outer h₀ → Fr h₀ L s.heap m → (hd.heap_1 w.params).In h₀ → News h₀ L s.heap (news) → Top p loose mean mg mb h₀ → cs.kind = .function → dp + 3 < recursionLimit → un + 24 < cLine →
   (∀ t' h' tk', Fr h₀ L h' m → News h₀ L h' news → Q (.bytes [].toArray t') { s with heap := h', toks := tk' }) →
   wpAny (model PySem.Challenge.rw_or0047_01.row.prog w) (ktrTop dp un gd cn cs L a ccd cl outer) (call (.ref 178) [.bytes [].toArray t]) Q E s :=
  unfN (by decide +kernel) (by decide +kernel) (by decide +kernel) (by decide)
theorem unf4 {t : Tok} : Below A₀ base outer h₀ → Fr h₀ L s.heap m → (hd.heap_1 w.params).In h₀ → News h₀ L s.heap (news) → Top p loose mean mg mb h₀ → cs.kind = .function → dp + 3 < recursionLimit → un + 24 < cLine →
   (∀ t' h' tk', Fr h₀ L h' m → News h₀ L h' news → Q (.bytes [66, 65, 83, 69, 54, 52, 32, 40, 120, 41].toArray t') { s with heap := h', toks := tk' }) →
   wpAny (model PySem.Challenge.rw_or0047_01.row.prog w) (ktrTop dp un gd cn cs L a ccd cl outer) (call (.ref 178) [.bytes [32, 66, 65, 83, 69, 54, 52, 32, 40, 120, 41].toArray t]) Q E s :=
  unfN (by decide +kernel) (by decide +kernel) (by decide +kernel) (by decide)
end
end Mine

-- deps: C3 C4 L3
namespace Mine
def unfV (b : Array UInt8) : Array UInt8 :=
  if b = #[32, 60, 97, 64, 98, 62] then #[60, 97, 64, 98, 62] else if b = #[32, 97, 13, 10, 32, 98] then #[97, 32, 98]
  else if b = #[32, 66, 65, 83, 69, 54, 52, 32, 40, 120, 41] then #[66, 65, 83, 69, 54, 52, 32, 40, 120, 41] else #[]
def RawOk (b : Array UInt8) : Prop := b = #[32, 60, 97, 64, 98, 62] ∨ b = #[32, 97, 13, 10, 32, 98] ∨ b = #[] ∨ b = #[32, 66, 65, 83, 69, 54, 52, 32, 40, 120, 41]
/-- a field's object, its name and what stands behind -/
def FieldAt (news : List (Addr × Obj)) (v : Value) (f : Array UInt8 × Array UInt8) : Prop :=
  Ex9 fun fr fd kh1 kt1 nt kh2 kt2 rt k => v = .ref fr ∧ (fr, instObj 153 fd) ∈ news ∧ (fd, dictOf [⟨kh1, .str (Str.ofString "name") kt1, .bytes f.1 nt⟩, ⟨kh2, .str (Str.ofString "raw") kt2, .bytes f.2 rt⟩] k) ∈ news
inductive Fields (news : List (Addr × Obj)) : List Value → List (Array UInt8 × Array UInt8) → Prop
  | nil : Fields news [] []
  | cons {v f vs fs} : FieldAt news v f → Fields news vs fs → Fields news (v :: vs) (f :: fs)
theorem FieldAt.mono {news news' : List (Addr × Obj)} {v f} (x : FieldAt news v f) (h : ∀ p ∈ news, p ∈ news') : FieldAt news' v f := by
  obtain ⟨fr, fd, a, b, c, d, e, g, k, h1, h2, h3⟩ := x
  exact ⟨fr, fd, a, b, c, d, e, g, k, h1, h _ h2, h _ h3⟩
theorem Fields.mono {news news' : List (Addr × Obj)} {vs fs} (x : Fields news vs fs) (h : ∀ p ∈ news, p ∈ news') : Fields news' vs fs := by
  induction x with
  | nil => exact .nil
  | cons a _ ih => exact .cons (a.mono h) ih
theorem Fields.at {news : List (Addr × Obj)} {vs fs} (x : Fields news vs fs) : ∀ {i : Nat} {v : Value}, vs[i]? = some v → ∃ f, fs[i]? = some f ∧ FieldAt news v f := by
  induction x with
  | nil => intro i v h; simp at h
  | cons a _ ih =>
    intro i v h
    cases i with
    | zero => simp at h; subst h; exact ⟨_, rfl, a⟩
    | succ i => simpa using ih (by simpa using h)
theorem Fields.length {news : List (Addr × Obj)} {vs fs} (x : Fields news vs fs) : vs.length = fs.length := by
  induction x with
  | nil => rfl
  | cons _ _ ih => simp [ih]
/-- the first field of a name, unfolded -/
def fbV (wd : Str) : List (Array UInt8 × Array UInt8) → Option (Array UInt8)
  | [] => none
  | f :: r => if wordOf f.1 = wd then some (unfV f.2) else fbV wd r
def optB (o : Option (Array UInt8)) (t : Tok) : Value := match o with
  | none => .none
  | some b => .bytes b t
section
variable {w : World} {p : Program} {loose : List Str} {mean : ExcName → Option Value} {mg mb : Str → Option Value} {dp un : Nat} {gd : Option (List Code)} {cn : Str} {cs : Scope} {a : Addr} {ccd : Value} {cl : List (Str × Addr)} {outer : List Env} {A₀ : Around} {base h₀ : Heap} {L : Addr} {m : Str → Option Value} {news : List (Addr × Obj)} {s : Shared} {Q E : Value → Shared → Prop}
theorem unfolded_c {b : Array UInt8} {t : Tok} (hb : RawOk b) : Below A₀ base outer h₀ → Fr h₀ L s.heap m → (hd.heap_1 w.params).In h₀ → News h₀ L s.heap (news) → Top p loose mean mg mb h₀ → cs.kind = .function → dp + 3 < recursionLimit → un + 24 < cLine →
   (∀ t' h' tk', Fr h₀ L h' m → News h₀ L h' news → Q (.bytes (unfV b) t') { s with heap := h', toks := tk' }) →
   wpAny (model PySem.Challenge.rw_or0047_01.row.prog w) (ktrTop dp un gd cn cs L a ccd cl outer) (call (.ref 178) [.bytes b t]) Q E s := by
  intro B F X N T hk hdp hun hret
  rcases hb with rfl | rfl | rfl | rfl
  · exact unf1 B F X N T hk hdp hun hret
  · exact unf2 B F X N T hk hdp hun hret
  · exact unf3 B F X N T hk hdp hun hret
  · exact unf4 B F X N T hk hdp hun hret
end
section
variable {w : World} {p : Program} {loose : List Str} {mean : ExcName → Option Value} {mg mb : Str → Option Value} {dp un : Nat} {gd : Option (List Code)} {cn : Str} {cs : Scope} {a : Addr} {ccd : Value} {cl : List (Str × Addr)} {outer : List Env} {A₀ : Around} {base h₀ : Heap} {L : Addr} {m : Str → Option Value} {news : List (Addr × Obj)} {s : Shared} {Q E : Value → Shared → Prop}
theorem first_body_c {fl : Addr} {vs : List Value} {fs : List (Array UInt8 × Array UInt8)} {nn : Nat} {word : Str} {t : Tok} (hl : (fl, listOf vs.toArray nn) ∈ news) (hF : Fields news vs fs) (hn : ∀ f ∈ fs, f.1.size ≤ 1000) (hr : ∀ f ∈ fs, wordOf f.1 = lowS word → RawOk f.2)
   (hw : ∀ c ∈ word.cps, c < 1114000) (hw' : word.cps.size ≤ 1000) : Below A₀ base outer h₀ → Fr h₀ L s.heap m → (hd.heap_1 w.params).In h₀ → News h₀ L s.heap (news) → Top p loose mean mg mb h₀ → cs.kind = .function → dp + 4 < recursionLimit → un + 32 < cLine →
   (∀ t' h' tk', Fr h₀ L h' m → News h₀ L h' news → Q (optB (fbV (lowS word) fs) t') { s with heap := h', toks := tk' }) →
   wpAny (model PySem.Challenge.rw_or0047_01.row.prog w) (ktrTop dp un gd cn cs L a ccd cl outer) (call (.ref 185) [.ref fl, .str word t]) Q E s := by
  k_with_none
  w_top off
  (k_with "call ref" => (k_here; (with_reducible show wpAny _ _ (call (Value.ref 124) _) _ _ _); k_dflt (refine' lower_text_c ?haZr ?hbZr ?k1Zr ?k2Zr ?k3Zr ?k4Zr ?k5Zr ?kKZr ?kdZr ?kuZr ?_; (case k1Zr => k_asm); (case k2Zr => k_asm); (case k3Zr => k_asm); (case k4Zr => k_asm); (case k5Zr => k_asm); (case kKZr => first | exact rfl | assumption); (case kdZr => ktr_room); (case kuZr => ktr_units); (case haZr => assumption); (case hbZr => assumption); intro _ _ _ _ _)))
  (k_with "call ref" => (k_here; (with_reducible show wpAny _ _ (call (Value.ref 143) _) _ _ _); k_dflt (refine' word_c ?haZr ?hbZr ?hcZr ?k1Zr ?k2Zr ?k3Zr ?k4Zr ?k5Zr ?kKZr ?kdZr ?kuZr ?_; (case k1Zr => k_asm); (case k2Zr => k_asm); (case k3Zr => k_asm); (case k4Zr => k_asm); (case k5Zr => k_asm); (case kKZr => first | exact rfl | assumption); (case kdZr => ktr_room); (case kuZr => ktr_units); (case haZr => assumption); (case hbZr => k_mem); (case hcZr => k_mem); intro _ _ _ _ _)))
  (k_with "call ref" => (k_here; (with_reducible show wpAny _ _ (call (Value.ref 178) _) _ _ _); k_dflt (refine' unfolded_c ?haZr ?k1Zr ?k2Zr ?k3Zr ?k4Zr ?k5Zr ?kKZr ?kdZr ?kuZr ?_; (case k1Zr => k_asm); (case k2Zr => k_asm); (case k3Zr => k_asm); (case k4Zr => k_asm); (case k5Zr => k_asm); (case kKZr => first | exact rfl | assumption); (case kdZr => ktr_room); (case kuZr => ktr_units); (case haZr => first | assumption | ((rename (_ = _ → RawOk _) => hq9); exact hq9 (eq_of_beq (by assumption)))); intro _ _ _ _ _)))
  (k_with "exec For" => (k_here; (with_reducible show wpAny _ _ (exec (Stmt.For (Expr.Name _ _) _ _ _ _) _) _ _ _); with_unfolding_all (refine For_invVF (by assumption) (by rfl) (by rfl) ?_)))
  (k_with "pyIter ref" => (k_here; (with_reducible show wpAny _ _ (pyIter (Value.ref _)) (fun it s₂ => LoopAtV _ _ _ _ _ _ _ _ _ it s₂) _ _); refine Hold.out ?_))
  (k_with "TurnPost" => dsimp only [TurnPost])
  k_fill
  intro B F X N T hk hdp hun hret
  (k_dflt (refine' enter_def [Str.ofString "fields", Str.ofString "word"] ?k1 ?k2 ?k3 ?k4 ?k5 ?kA ?kF ?kK ?k6 ?k7 ?k8 ?k9 ?kB ?_ ?c2 ?c3 ?c4 ?c5; (case kA => exact rfl); (case kF => exact rfl); (case kK => first | exact rfl | assumption); (case k1 => k_asm); (case k2 => k_asm); (case k3 => k_asm); (case k4 => k_asm); (case k5 => k_asm); (case k6 => k_is); (case k7 => k_is); (case k8 => ktr_room); (case k9 => exact BindsTo.of_eq rfl); (case c5 => decide); (case kB => exact locs rfl); (case c2 => exact rfl); (case c3 => exact rfl); (case c4 => exact rfl); k_whole; intro g' L' h' FG' F' N' B' X' T'; (try dsimp only [List.zip_cons_cons, List.zip_nil_right, List.zipWith]); (try k_lift B'); (try k_fold)))
  k_steps
  refine Hold.of ?_
  (rename Fr g' L' _ _ => F1); (rename News g' L' _ _ => N1)
  refine for_listK (J := fun i m' => fbV (lowS word) fs = fbV (lowS word) (fs.drop i) ∧ ∃ t9, m' (Str.ofString "wanted") = some (.str (lowS word) t9)) rfl hl F1 N1 ⟨rfl, _, rfl⟩ ?_ ?_
  · intro i v m₁ h tk own hi hJ F2 N2
    obtain ⟨hfb, t9, hm⟩ := hJ
    obtain ⟨f, hf, fr, fd, kh1, kt1, nt, kh2, kt2, rt, k, rfl, m1, m2⟩ := hF.at hi
    have F3 := fr_known (y0 := Str.ofString "wanted") (v0 := .str (lowS word) t9) F2 (by show (if _ then _ else _) = _; rw [if_neg (by decide)]; exact hm)
    have hfm : f ∈ fs := List.mem_of_getElem? hf
    have hn1 := hn f hfm
    have hr1 := hr f hfm
    have hd : fs.drop i = f :: fs.drop (i + 1) := by
      have := List.getElem?_eq_some_iff.mp hf
      obtain ⟨q, e⟩ := this
      rw [List.drop_eq_getElem_cons q, e]
    have m1' : (fr, instObj 153 fd) ∈ own ++ news := List.mem_append_right _ m1
    have m2' : (fd, dictOf [⟨kh1, .str (Str.ofString "name") kt1, .bytes f.1 nt⟩, ⟨kh2, .str (Str.ofString "raw") kt2, .bytes f.2 rt⟩] k) ∈ own ++ news := List.mem_append_right _ m2
    clear F2
    have hfb' : fbV (lowS word) fs = if wordOf f.1 = lowS word then some (unfV f.2) else fbV (lowS word) (fs.drop (i + 1)) := by rw [hfb, hd]; rfl
    k_steps
    · rename (_ == _) = true => hz
      rw [if_pos (eq_of_beq hz)] at hfb'
      rw [hfb'] at hret
      exact hret _ _ _ (by k_asm) (cb_drop (by assumption) (fun p hp => List.mem_append_right _ hp))
    · rename (_ == _) = false => hz
      rw [if_neg (by intro e; rw [e] at hz; simp at hz)] at hfb'
      exact Hold.of ⟨_, _, _, rfl, by k_asm, by k_asm, hfb', t9, rfl⟩
  · intro m₁ h tk hJ F2 N2
    obtain ⟨hfb, t9, hm⟩ := hJ
    have hl0 := hF.length
    rw [show fs.drop vs.length = [] by rw [hl0]; simp] at hfb
    dsimp only
    k_steps
    rw [hfb] at hret
    exact hret 0 _ _ (by k_asm) (by k_asm)
end
end Mine

-- deps: C5
namespace Mine
/-- the encoding's word -/
def encV (o : Option (Array UInt8)) : Str := match o with
  | none => Str.ofString "7bit"
  | some b => if b = #[60, 97, 64, 98, 62] then Str.ofString "<a\x40b>" else if b = #[97, 32, 98] then Str.ofString "a"
    else if b = #[66, 65, 83, 69, 54, 52, 32, 40, 120, 41] then Str.ofString "base64" else Str.ofString "7bit"
theorem cte_cps : ∀ c ∈ (Str.ofString "content-transfer-encoding").cps, c < 1114000 := by decide +kernel
theorem cte_size : (Str.ofString "content-transfer-encoding").cps.size ≤ 1000 := by decide +kernel
theorem unfV_ok {b : Array UInt8} (h : RawOk b) : unfV b = #[60, 97, 64, 98, 62] ∨ unfV b = #[97, 32, 98] ∨ unfV b = #[] ∨ unfV b = #[66, 65, 83, 69, 54, 52, 32, 40, 120, 41] := by
  rcases h with rfl | rfl | rfl | rfl
  · exact .inl (by decide)
  · exact .inr (.inl (by decide))
  · exact .inr (.inr (.inl (by decide)))
  · exact .inr (.inr (.inr (by decide)))
theorem fbV_ok {wd : Str} : ∀ {fs : List (Array UInt8 × Array UInt8)}, (∀ f ∈ fs, wordOf f.1 = wd → RawOk f.2) →
    fbV wd fs = none ∨ fbV wd fs = some #[60, 97, 64, 98, 62] ∨ fbV wd fs = some #[97, 32, 98] ∨ fbV wd fs = some #[] ∨ fbV wd fs = some #[66, 65, 83, 69, 54, 52, 32, 40, 120, 41]
  | [], _ => .inl rfl
  | f :: fs, h => by
    unfold fbV
    by_cases e : wordOf f.1 = wd
    · rw [if_pos e]
      rcases unfV_ok (h f (.head _) e) with q | q | q | q <;> rw [q] <;> simp
    · rw [if_neg e]
      exact fbV_ok fun g hg => h g (.tail _ hg)
section
variable {w : World} {p : Program} {loose : List Str} {mean : ExcName → Option Value} {mg mb : Str → Option Value} {dp un : Nat} {gd : Option (List Code)} {cn : Str} {cs : Scope} {a : Addr} {ccd : Value} {cl : List (Str × Addr)} {outer : List Env} {A₀ : Around} {base h₀ : Heap} {L : Addr} {m : Str → Option Value} {news : List (Addr × Obj)} {s : Shared} {Q E : Value → Shared → Prop}
theorem encoding_of_c {fl : Addr} {vs : List Value} {fs : List (Array UInt8 × Array UInt8)} {nn : Nat} (hl : (fl, listOf vs.toArray nn) ∈ news) (hF : Fields news vs fs) (hn : ∀ f ∈ fs, f.1.size ≤ 1000) (hr : ∀ f ∈ fs, wordOf f.1 = lowS (Str.ofString "content-transfer-encoding") → RawOk f.2) : Below A₀ base outer h₀ → Fr h₀ L s.heap m → (hd.heap_1 w.params).In h₀ → News h₀ L s.heap (news) → Top p loose mean mg mb h₀ → cs.kind = .function → dp + 5 < recursionLimit → un + 40 < cLine →
   (∀ t' h' tk', Fr h₀ L h' m → News h₀ L h' news → Q (.str (encV (fbV (lowS (Str.ofString "content-transfer-encoding")) fs)) t') { s with heap := h', toks := tk' }) →
   wpAny (model PySem.Challenge.rw_or0047_01.row.prog w) (ktrTop dp un gd cn cs L a ccd cl outer) (call (.ref 303) [.ref fl]) Q E s := by
  k_with_none
  w_top off
  (k_with "call ref" => (k_here; (with_reducible show wpAny _ _ (call (Value.ref 185) _) _ _ _); k_dflt (refine' first_body_c ?haZr ?hbZr ?hcZr ?hdZr cte_cps cte_size ?k1Zr ?k2Zr ?k3Zr ?k4Zr ?k5Zr ?kKZr ?kdZr ?kuZr ?_; (case k1Zr => k_asm); (case k2Zr => k_asm); (case k3Zr => k_asm); (case k4Zr => k_asm); (case k5Zr => k_asm); (case kKZr => first | exact rfl | assumption); (case kdZr => ktr_room); (case kuZr => ktr_units); (case haZr => assumption); (case hbZr => assumption); (case hcZr => assumption); (case hdZr => assumption); intro _ _ _ _ _; (rename (fbV _ _ = _) => e9; rw [e9]; dsimp only [optB]))))
  (k_with "call ref" => (k_here; (with_reducible show wpAny _ _ (call (Value.ref 124) _) _ _ _); k_dflt (refine' lower_text_c ?haZr ?hbZr ?k1Zr ?k2Zr ?k3Zr ?k4Zr ?k5Zr ?kKZr ?kdZr ?kuZr ?_; (case k1Zr => k_asm); (case k2Zr => k_asm); (case k3Zr => k_asm); (case k4Zr => k_asm); (case k5Zr => k_asm); (case kKZr => first | exact rfl | assumption); (case kdZr => ktr_room); (case kuZr => ktr_units); (case haZr => decide +kernel); (case hbZr => decide +kernel); intro _ _ _ _ _; (first | rw [show lowS _ = Str.ofString "<a\x40b>" from by decide +kernel] | rw [show lowS _ = Str.ofString "a" from by decide +kernel] | rw [show lowS _ = Str.ofString "" from by decide +kernel] | rw [show lowS _ = Str.ofString "base64" from by decide +kernel]))))
  (k_with "compareOp NotIn int bytes" => (k_here; first | refine notin_bytes (r := true) (by decide +kernel) (by decide +kernel) (by decide +kernel) ?_ | refine notin_bytes (r := false) (by decide +kernel) (by decide +kernel) (by decide +kernel) ?_))
  (k_with "eval ListComp" => (k_here; k_dflt (refine comp_B (by k_asm) (by rfl) (by decide) (by rfl) (by decide) (by rfl) ?_)))
  (k_with "call builtin:str.join" => (k_here; refine' join_signsB ?hlZr ?hSZr ?hbZr ?_; (case hSZr => assumption); (case hlZr => exact News.isList (by assumption) (by k_mem)); (case hbZr => decide +kernel); intro _ _))
  (k_with "subscriptTail" => (k_here; (with_reducible show wpAny _ _ (subscriptTail _ (Expr.Slice _ _ none _) (Value.bytes _ _) (Value.ref _)) _ _ _); (refine KBc.slice_K (s := ⟨_, _, _, _, _⟩) (by assumption) (by assumption) rfl (by constructor) (by constructor) (by rw [KBw.ints_length]; decide +kernel) ?_); intro _ _ _ _ _ _))
  k_fill
  intro B F X N T hk hdp hun hret
  rcases fbV_ok hr with e | e | e | e | e
  all_goals rw [e] at hret
  · (k_dflt (refine' enter_def [Str.ofString "fields"] ?k1 ?k2 ?k3 ?k4 ?k5 ?kA ?kF ?kK ?k6 ?k7 ?k8 ?k9 ?kB ?_ ?c2 ?c3 ?c4 ?c5; (case kA => exact rfl); (case kF => exact rfl); (case kK => first | exact rfl | assumption); (case k1 => k_asm); (case k2 => k_asm); (case k3 => k_asm); (case k4 => k_asm); (case k5 => k_asm); (case k6 => k_is); (case k7 => k_is); (case k8 => ktr_room); (case k9 => exact BindsTo.of_eq rfl); (case c5 => decide); (case kB => exact locs rfl); (case c2 => exact rfl); (case c3 => exact rfl); (case c4 => exact rfl); k_whole; intro g' L' h' FG' F' N' B' X' T'; (try dsimp only [List.zip_cons_cons, List.zip_nil_right, List.zipWith]); (try k_lift B'); (try k_fold)))
    k_steps
    exact hret _ _ _ (by k_asm) (by k_asm)
  all_goals
    first
    | rw [show encV _ = Str.ofString "<a\x40b>" from by decide +kernel] at hret
    | rw [show encV _ = Str.ofString "a" from by decide +kernel] at hret
    | rw [show encV _ = Str.ofString "7bit" from by decide +kernel] at hret
    | rw [show encV _ = Str.ofString "base64" from by decide +kernel] at hret
    (k_dflt (refine' enter_def [Str.ofString "fields"] ?k1 ?k2 ?k3 ?k4 ?k5 ?kA ?kF ?kK ?k6 ?k7 ?k8 ?k9 ?kB ?_ ?c2 ?c3 ?c4 ?c5; (case kA => exact rfl); (case kF => exact rfl); (case kK => first | exact rfl | assumption); (case k1 => k_asm); (case k2 => k_asm); (case k3 => k_asm); (case k4 => k_asm); (case k5 => k_asm); (case k6 => k_is); (case k7 => k_is); (case k8 => ktr_room); (case k9 => exact BindsTo.of_eq rfl); (case c5 => decide); (case kB => exact locs rfl); (case c2 => exact rfl); (case c3 => exact rfl); (case c4 => exact rfl); k_whole; intro g' L' h' FG' F' N' B' X' T'; (try dsimp only [List.zip_cons_cons, List.zip_nil_right, List.zipWith]); (try k_lift B'); (try k_fold)))
    k_steps
    refine Hold.of ⟨_, _, news, rfl, rfl, by k_asm, by k_asm, by decide +kernel, ?_, ?_⟩
    · intro c u I oI C oC D m₂ ys h tk E' hC hx' hc F' N' off ne
      k_steps
      exact ⟨⟨_, rfl⟩, _, _, rfl, by k_asm, by k_asm⟩
    · intro D ys h tk hS F' N' off
      k_steps
      exact hret _ _ _ (by k_asm) (cb_drop (by assumption) (fun p hp => .tail _ hp))
end
end Mine

-- deps: Head L1 L3 L4
namespace Mine
section
variable {w : World} {p : Program} {loose : List Str} {mean : ExcName → Option Value} {mg mb : Str → Option Value} {dp un : Nat} {gd : Option (List Code)} {cn : Str} {cs : Scope} {a : Addr} {ccd : Value} {cl : List (Str × Addr)} {outer : List Env} {A₀ : Around} {base h₀ : Heap} {L : Addr} {m : Str → Option Value} {news : List (Addr × Obj)} {s : Shared} {Q E : Value → Shared → Prop}
theorem sign_octets_c {x : Str} {t : Tok} (hx : ∀ c ∈ x.cps, c < 256) (hn : x.cps.size ≤ 1000) : Below A₀ base outer h₀ → Fr h₀ L s.heap m → (hd.heap_1 w.params).In h₀ → News h₀ L s.heap (news) → Top p loose mean mg mb h₀ → cs.kind = .function → dp + 1 < recursionLimit → un + 8 < cLine →
   (∀ t' h' tk', Fr h₀ L h' m → News h₀ L h' news → Q (.bytes (octS x) t') { s with heap := h', toks := tk' }) →
   wpAny (model PySem.Challenge.rw_or0047_01.row.prog w) (ktrTop dp un gd cn cs L a ccd cl outer) (call (.ref 78) [.str x t]) Q E s := by
  k_with_none
  w_top off
  (k_with "exec For" => (k_here; (with_reducible show wpAny _ _ (exec (Stmt.For (Expr.Name _ _) _ _ _ _) _) _ _ _); with_unfolding_all (refine For_invVF (by assumption) (by rfl) (by rfl) ?_)))
  (k_with "pyIter ref" => (k_here; (with_reducible show wpAny _ _ (pyIter (Value.ref _)) (fun it s₂ => LoopAtV _ _ _ _ _ _ _ _ _ it s₂) _ _); refine Hold.out ?_))
  (k_with "TurnPost" => dsimp only [TurnPost])
  (k_with "eval ListComp" => (k_here; k_dflt (refine comp_S (by k_asm) (by rfl) (by decide) (by rfl) (by decide) (by rfl) ?_)))
  (k_with "call builtin:len" => (k_here; (with_reducible show wpAny _ _ (call (Value.builtin "len") [Value.str _ _]) _ _ _); refine P.len_str ?hzZr ?_; (case hzZr => (show ¬ ((_ : Int) ≥ 2 ^ 63); simp only [Str.length]; omega))))
  (k_with "subscriptTail Name Name str int" => (k_here; (with_reducible show wpAny _ _ (subscriptTail _ _ (Value.str _ _) (Value.int _ _)) _ _ _); refine' str_at ?h1Zr ?h2Zr ?h3Zr ?_; (case h1Zr => exact Int.zero_add _); (case h2Zr => assumption); (case h3Zr => assumption)))
  (k_with "call type:bytes" => (k_here; (with_reducible show wpAny _ _ (call (Value.type "bytes") [Value.ref _]) _ _ _); refine' bytes_ints ?FZr ?NZr ?hhZr ?hlZr ?hiZr ?hrZr ?hnZr ?_; (case hiZr => assumption); (case FZr => k_asm); (case NZr => k_asm); (case hhZr => rfl); (case hlZr => exact News.isList (by assumption) (by k_mem)); (case hrZr => assumption); (case hnZr => assumption); intro _ _ _ _ _))
  k_fill
  intro B F X N T hk hdp hun hret
  (k_dflt (refine' enter_def [Str.ofString "text"] ?k1 ?k2 ?k3 ?k4 ?k5 ?kA ?kF ?kK ?k6 ?k7 ?k8 ?k9 ?kB ?_ ?c2 ?c3 ?c4 ?c5; (case kA => exact rfl); (case kF => exact rfl); (case kK => first | exact rfl | assumption); (case k1 => k_asm); (case k2 => k_asm); (case k3 => k_asm); (case k4 => k_asm); (case k5 => k_asm); (case k6 => k_is); (case k7 => k_is); (case k8 => ktr_room); (case k9 => exact BindsTo.of_eq rfl); (case c5 => decide); (case kB => exact locs rfl); (case c2 => exact rfl); (case c3 => exact rfl); (case c4 => exact rfl); k_whole; intro g' L' h' FG' F' N' B' X' T'; (try dsimp only [List.zip_cons_cons, List.zip_nil_right, List.zipWith]); (try k_lift B'); (try k_fold)))
  k_steps
  refine Hold.of ?_
  rename IsRange _ _ _ _ _ _ _ _ => hr
  rename Fr g' L' _ _ => F1
  rename News g' L' _ _ => N1
  refine for_rangeK (n := x.length) (J := fun i m' => m' (Str.ofString "text") = some (.str x t)) rfl hr (small_one (by omega) (by omega) (by omega) (by simp only [Str.length]; omega)) (rangeSize_nat _ _) F1 N1 rfl ?_ ?_
  · intro i u m₁ h tk own hi hJ F2 N2
    have F3 := fr_known (y0 := Str.ofString "text") (v0 := .str x t) F2 (by show (if _ then _ else _) = _; rw [if_neg (by decide)]; exact hJ)
    clear F2
    have hc := hx (x.cps[i]'hi) (Array.getElem_mem hi)
    have hi' : i < x.cps.size := hi
    k_steps
    exact Hold.of ⟨_, _, _, rfl, by k_asm, by k_asm, rfl⟩
  · intro m₁ h tk hJ F2 N2
    have F3 := fr_known (y0 := Str.ofString "text") (v0 := .str x t) F2 hJ
    clear F2
    dsimp only
    have hB : ∀ n ∈ (x.cps.toList.map fun c => ((c : Nat) : Int)), 0 ≤ n ∧ n < 256 := fun n q => by
      obtain ⟨c, qc, rfl⟩ := List.mem_map.mp q
      have := hx c (by simpa using qc)
      omega
    have hL : (x.cps.toList.map fun c => ((c : Nat) : Int)).length ≤ 10000 := by simp; omega
    k_steps
    refine Hold.of ⟨x, t, news, rfl, rfl, by k_asm, by k_asm, by rw [sizeLine_eq]; omega, ?_, ?_⟩
    · intro c u I oI C oC D m₂ ys h tk E' hC hx' F' N' off ne
      k_steps
      exact ⟨⟨_, rfl⟩, _, _, rfl, by k_asm, by k_asm⟩
    · intro D ys h tk hS F' N' off
      k_steps
      exact hret _ _ _ (by k_asm) (cb_drop (by assumption) (fun p hp => .tail _ hp))
end
end Mine

-- deps: Head L1 L3 L4 L5
namespace Mine
def u8n (c : Nat) : Nat := if c < 128 then 1 else 2
section
variable {w : World} {p : Program} {loose : List Str} {mean : ExcName → Option Value} {mg mb : Str → Option Value} {dp un : Nat} {gd : Option (List Code)} {cn : Str} {cs : Scope} {a : Addr} {ccd : Value} {cl : List (Str × Addr)} {outer : List Env} {A₀ : Around} {base h₀ : Heap} {L : Addr} {m : Str → Option Value} {news : List (Addr × Obj)} {s : Shared} {Q E : Value → Shared → Prop}
theorem utf8_length_c {c : Nat} {t : Tok} (hc : c < 128 ∨ c = 233) : Below A₀ base outer h₀ → Fr h₀ L s.heap m → (hd.heap_1 w.params).In h₀ → News h₀ L s.heap (news) → Top p loose mean mg mb h₀ → cs.kind = .function → dp + 1 < recursionLimit → un + 8 < cLine →
   (∀ t' h' tk', Fr h₀ L h' m → News h₀ L h' news → Q (.int (u8n c : Nat) t') { s with heap := h', toks := tk' }) →
   wpAny (model PySem.Challenge.rw_or0047_01.row.prog w) (ktrTop dp un gd cn cs L a ccd cl outer) (call (.ref 91) [.int (c : Nat) t]) Q E s := by
  k_with_none
  w_top off
  (k_with "eval ListComp" => (k_here; k_dflt (refine comp_J (by k_asm) (by rfl) (by decide) (by rfl) (by decide) (by rfl) ?_)))
  (k_with "call builtin:len" => (k_here; (with_reducible show wpAny _ _ (call (Value.builtin "len") [Value.ref _]) _ _ _); refine' len_lst ?hlZr ?hyZr ?hsZr ?_; (case hyZr => assumption); (case hlZr => exact News.isList (by assumption) (by k_mem)); (case hsZr => (split <;> omega))))
  (k_with "compareOp NotIn str ref" => (k_here; k_dflt (refine' notin_tup (r := false) (tupK ?hXZr ?hLZr) ?hSZr ?hrZr ?_; (case hXZr => exact Frag.In.keeps (by k_asm) (Fr.keep (by k_asm))); (case hLZr => k_is); (case hSZr => repeat constructor); (case hrZr => decide +kernel))))
  k_fill
  intro B F X N T hk hdp hun hret
  have hc' : (c : Int) < 234 := by omega
  (refine wpAny_call ?_; k_dflt (refine' code_defC ?k1 ?k2 ?k3 ?k4 ?k5 ?kA ?kF ?kK ?k6 ?k7 ?k8 ?k9 ?kB ?kD ?_ ?c2 ?c3 ?c4; (case kA => exact rfl); (case kF => exact rfl); (case kK => first | exact rfl | assumption); (case k1 => k_asm); (case k2 => k_asm); (case k3 => k_asm); (case k4 => k_asm); (case k5 => k_asm); (case k6 => k_is); (case k7 => k_is); (case k8 => ktr_room); (case k9 => exact BindsTo.of_eq rfl); (case kB => exact rfl); (case kD => decide +kernel); (case c2 => exact rfl); (case c3 => exact rfl); (case c4 => exact rfl); k_whole; intro g' L' h' tk' cells' FG' F' N' Y' B' X' T' l1; (try k_lt l1); k_cells Y'; (try simp only [List.cons_append, List.nil_append] at N'); (try dsimp only); (try k_lift B'); (try k_fold)))
  k_steps
  rename Fr g' L' _ _ => F1
  rename News g' L' _ _ => N1
  refine Hold.of ⟨_, _, "tuple", _, fun i ys nw => nw = _ ∧ ys.length = (if c < 128 then 0 else min i 1), rfl, .inr rfl, rfl, F1, N1, .inr ⟨_, by k_mem, rfl, _, rfl⟩, by rw [sizeLine_eq]; simp, ⟨rfl, by split <;> rfl⟩, ?_, ?_, ?_⟩
  · rintro i ys nw ⟨rfl, _⟩
    exact .inr ⟨_, by k_mem, rfl, _, rfl⟩
  · rintro i v I oI C oC D m₂ ys nw h tk E' hv ⟨rfl, hy⟩ hC hx' F' N' off ne
    rcases i with _ | _ | _ | i <;> simp at hv <;> subst hv
    all_goals
      k_steps
      all_goals
        refine Hold.of ⟨_, _, _, rfl, by k_asm, by k_asm, off, rfl, ?_⟩
        (try simp only [List.length_append, List.length_cons, List.length_nil])
        split at hy <;> (try rw [if_pos (by assumption)]) <;> (try rw [if_neg (by assumption)]) <;> omega
  · rintro D ys nw h tk ⟨rfl, hy⟩ F' N' off
    k_steps
    refine cb_retI hret ?_ (by k_asm) (cb_drop (by assumption) (fun p hp => .tail _ (.tail _ (.tail _ hp))))
    unfold u8n
    split <;> simp
theorem need_charset_c {t : Tok} : Below A₀ base outer h₀ → Fr h₀ L s.heap m → (hd.heap_1 w.params).In h₀ → News h₀ L s.heap (news) → Top p loose mean mg mb h₀ → cs.kind = .function → dp + 1 < recursionLimit → un + 8 < cLine →
   (∀ h' tk', Fr h₀ L h' m → News h₀ L h' news → Q .none { s with heap := h', toks := tk' }) →
   wpAny (model PySem.Challenge.rw_or0047_01.row.prog w) (ktrTop dp un gd cn cs L a ccd cl outer) (call (.ref 86) [.str (Str.ofString "utf-8") t]) Q E s := by
  k_with_none
  w_top off
  (k_with "eval ListComp" => (k_here; k_dflt (refine comp_J (by k_asm) (by rfl) (by decide) (by rfl) (by decide) (by rfl) ?_)))
  (k_with "call builtin:len" => (k_here; (with_reducible show wpAny _ _ (call (Value.builtin "len") [Value.ref _]) _ _ _); refine' len_lst ?hlZr ?hyZr ?hsZr ?_; (case hyZr => assumption); (case hlZr => exact News.isList (by assumption) (by k_mem)); (case hsZr => (split <;> omega))))
  (k_with "compareOp NotIn str ref" => (k_here; k_dflt (refine' notin_tup (r := false) (tupK ?hXZr ?hLZr) ?hSZr ?hrZr ?_; (case hXZr => exact Frag.In.keeps (by k_asm) (Fr.keep (by k_asm))); (case hLZr => k_is); (case hSZr => repeat constructor); (case hrZr => decide +kernel))))
  k_fill
  intro B F X N T hk hdp hun hret
  (k_dflt (refine' enter_def [Str.ofString "charset"] ?k1 ?k2 ?k3 ?k4 ?k5 ?kA ?kF ?kK ?k6 ?k7 ?k8 ?k9 ?kB ?_ ?c2 ?c3 ?c4 ?c5; (case kA => exact rfl); (case kF => exact rfl); (case kK => first | exact rfl | assumption); (case k1 => k_asm); (case k2 => k_asm); (case k3 => k_asm); (case k4 => k_asm); (case k5 => k_asm); (case k6 => k_is); (case k7 => k_is); (case k8 => ktr_room); (case k9 => exact BindsTo.of_eq rfl); (case c5 => decide); (case kB => exact locs rfl); (case c2 => exact rfl); (case c3 => exact rfl); (case c4 => exact rfl); k_whole; intro g' L' h' FG' F' N' B' X' T'; (try dsimp only [List.zip_cons_cons, List.zip_nil_right, List.zipWith]); (try k_lift B'); (try k_fold)))
  k_steps
  exact hret _ _ (by k_asm) (by k_asm)
end
end Mine

-- deps: C8 L6
namespace Mine
theorem keep1 {h₀ h : Heap} {L : Addr} {a b : Addr × Obj} {news : List (Addr × Obj)} (N : News h₀ L h (a :: b :: news)) : News h₀ L h (a :: news) := fun p hp => by
  rcases List.mem_cons.mp hp with rfl | hp
  · exact N _ (.head _)
  · exact N _ (.tail _ (.tail _ hp))
theorem keep2 {h₀ h : Heap} {L : Addr} {a b c : Addr × Obj} {news : List (Addr × Obj)} (N : News h₀ L h (a :: b :: c :: news)) : News h₀ L h (a :: news) := fun p hp => by
  rcases List.mem_cons.mp hp with rfl | hp
  · exact N _ (.head _)
  · exact N _ (.tail _ (.tail _ (.tail _ hp)))
section
variable {w : World} {p : Program} {loose : List Str} {mean : ExcName → Option Value} {mg mb : Str → Option Value} {dp un : Nat} {gd : Option (List Code)} {cn : Str} {cs : Scope} {a : Addr} {ccd : Value} {cl : List (Str × Addr)} {outer : List Env} {A₀ : Around} {base h₀ : Heap} {L : Addr} {m : Str → Option Value} {news : List (Addr × Obj)} {s : Shared} {Q E : Value → Shared → Prop}
section
theorem has_sign_c {c : Nat} {t u : Tok} (hc : c < 128 ∨ c = 233) : Below A₀ base outer h₀ → Fr h₀ L s.heap m → (hd.heap_1 w.params).In h₀ → News h₀ L s.heap (news) → Top p loose mean mg mb h₀ → cs.kind = .function → dp + 2 < recursionLimit → un + 16 < cLine →
   (∀ h' tk', Fr h₀ L h' m → News h₀ L h' news → Q (.bool true) { s with heap := h', toks := tk' }) →
   wpAny (model PySem.Challenge.rw_or0047_01.row.prog w) (ktrTop dp un gd cn cs L a ccd cl outer) (call (.ref 105) [.str (Str.ofString "utf-8") t, .int (c : Nat) u]) Q E s := by
  k_with_none
  w_top off
  (k_with "call ref" => (k_here; (with_reducible show wpAny _ _ (call (Value.ref 91) _) _ _ _); k_dflt (refine' utf8_length_c ?haZr ?k1Zr ?k2Zr ?k3Zr ?k4Zr ?k5Zr ?kKZr ?kdZr ?kuZr ?_; (case k1Zr => k_asm); (case k2Zr => k_asm); (case k3Zr => k_asm); (case k4Zr => k_asm); (case k5Zr => k_asm); (case kKZr => first | exact rfl | assumption); (case kdZr => ktr_room); (case kuZr => ktr_units); (case haZr => assumption); intro _ _ _ _ _)))
  k_fill
  intro B F X N T hk hdp hun hret
  have h1 : u8n c = 1 ∨ u8n c = 2 := by unfold u8n; split <;> simp
  (k_dflt (refine' enter_def [Str.ofString "charset", Str.ofString "code"] ?k1 ?k2 ?k3 ?k4 ?k5 ?kA ?kF ?kK ?k6 ?k7 ?k8 ?k9 ?kB ?_ ?c2 ?c3 ?c4 ?c5; (case kA => exact rfl); (case kF => exact rfl); (case kK => first | exact rfl | assumption); (case k1 => k_asm); (case k2 => k_asm); (case k3 => k_asm); (case k4 => k_asm); (case k5 => k_asm); (case k6 => k_is); (case k7 => k_is); (case k8 => ktr_room); (case k9 => exact BindsTo.of_eq rfl); (case c5 => decide); (case kB => exact locs rfl); (case c2 => exact rfl); (case c3 => exact rfl); (case c4 => exact rfl); k_whole; intro g' L' h' FG' F' N' B' X' T'; (try dsimp only [List.zip_cons_cons, List.zip_nil_right, List.zipWith]); (try k_lift B'); (try k_fold)))
  k_steps
  rw [show decide (0 < ((u8n c : Nat) : Int)) = true from decide_eq_true (by omega)]
  exact hret _ _ (by k_asm) (by k_asm)
end
section
theorem utf8_one_c {c : Nat} {u : Tok} (hc : c < 128) : Below A₀ base outer h₀ → Fr h₀ L s.heap m → (hd.heap_1 w.params).In h₀ → News h₀ L s.heap (news) → Top p loose mean mg mb h₀ → cs.kind = .function → dp + 2 < recursionLimit → un + 16 < cLine →
   (∀ D t k h' tk', AllLt D news → Fr h₀ L h' m → News h₀ L h' ((D, listOf #[.int (c : Nat) t] k) :: news) → Q (.ref D) { s with heap := h', toks := tk' }) →
   wpAny (model PySem.Challenge.rw_or0047_01.row.prog w) (ktrTop dp un gd cn cs L a ccd cl outer) (call (.ref 98) [.int (c : Nat) u]) Q E s := by
  k_with_none
  w_top off
  (k_with "call ref" => (k_here; (with_reducible show wpAny _ _ (call (Value.ref 91) _) _ _ _); k_dflt (refine' utf8_length_c ?haZr ?k1Zr ?k2Zr ?k3Zr ?k4Zr ?k5Zr ?kKZr ?kdZr ?kuZr ?_; (case k1Zr => k_asm); (case k2Zr => k_asm); (case k3Zr => k_asm); (case k4Zr => k_asm); (case k5Zr => k_asm); (case kKZr => first | exact rfl | assumption); (case kdZr => ktr_room); (case kuZr => ktr_units); (case haZr => exact Or.inl (by assumption)); intro _ _ _ _ _; (rename ((u8n _ : Nat) : Int) = _ => e9; rw [e9]))))
  k_fill
  intro B F X N T hk hdp hun hret
  have h1 : ((u8n c : Nat) : Int) = 1 := by unfold u8n; rw [if_pos hc]; rfl
  (k_dflt (refine' enter_def [Str.ofString "code"] ?k1 ?k2 ?k3 ?k4 ?k5 ?kA ?kF ?kK ?k6 ?k7 ?k8 ?k9 ?kB ?_ ?c2 ?c3 ?c4 ?c5; (case kA => exact rfl); (case kF => exact rfl); (case kK => first | exact rfl | assumption); (case k1 => k_asm); (case k2 => k_asm); (case k3 => k_asm); (case k4 => k_asm); (case k5 => k_asm); (case k6 => k_is); (case k7 => k_is); (case k8 => ktr_room); (case k9 => exact BindsTo.of_eq rfl); (case c5 => decide); (case kB => exact locs rfl); (case c2 => exact rfl); (case c3 => exact rfl); (case c4 => exact rfl); k_whole; intro g' L' h' FG' F' N' B' X' T'; (try dsimp only [List.zip_cons_cons, List.zip_nil_right, List.zipWith]); (try k_lift B'); (try k_fold)))
  k_steps
  exact hret _ _ _ _ _ (by first | assumption | exact And.right (by assumption) | exact And.right (And.right (by assumption)) | exact And.right (And.right (And.right (by assumption)))) (by k_asm) (keep1 (by assumption))
end
section
theorem utf8_two_c {u : Tok} : Below A₀ base outer h₀ → Fr h₀ L s.heap m → (hd.heap_1 w.params).In h₀ → News h₀ L s.heap (news) → Top p loose mean mg mb h₀ → cs.kind = .function → dp + 2 < recursionLimit → un + 16 < cLine →
   (∀ D t t' k h' tk', AllLt D news → Fr h₀ L h' m → News h₀ L h' ((D, listOf #[.int 195 t, .int 169 t'] k) :: news) → Q (.ref D) { s with heap := h', toks := tk' }) →
   wpAny (model PySem.Challenge.rw_or0047_01.row.prog w) (ktrTop dp un gd cn cs L a ccd cl outer) (call (.ref 98) [.int 233 u]) Q E s := by
  k_with_none
  w_top off
  (k_with "exec For" => (k_here; (with_reducible show wpAny _ _ (exec (Stmt.For (Expr.Name _ _) _ _ _ _) _) _ _ _); with_unfolding_all (refine For_invVF (by assumption) (by rfl) (by rfl) ?_)))
  (k_with "pyIter ref" => (k_here; (with_reducible show wpAny _ _ (pyIter (Value.ref _)) (fun it s₂ => LoopAtV _ _ _ _ _ _ _ _ _ it s₂) _ _); refine Hold.out ?_))
  (k_with "TurnJ" => dsimp only [TurnJ])
  (k_with "call ref" => (k_here; (with_reducible show wpAny _ _ (call (Value.ref 91) _) _ _ _); k_dflt (refine' utf8_length_c (c := 233) ?haZr ?k1Zr ?k2Zr ?k3Zr ?k4Zr ?k5Zr ?kKZr ?kdZr ?kuZr ?_; (case k1Zr => k_asm); (case k2Zr => k_asm); (case k3Zr => k_asm); (case k4Zr => k_asm); (case k5Zr => k_asm); (case kKZr => first | exact rfl | assumption); (case kdZr => ktr_room); (case kuZr => ktr_units); (case haZr => exact Or.inr rfl); intro _ _ _ _ _; (try rw [show ((u8n 233 : Nat) : Int) = 2 from rfl]))))
  k_fill
  intro B F X N T hk hdp hun hret
  (k_dflt (refine' enter_def [Str.ofString "code"] ?k1 ?k2 ?k3 ?k4 ?k5 ?kA ?kF ?kK ?k6 ?k7 ?k8 ?k9 ?kB ?_ ?c2 ?c3 ?c4 ?c5; (case kA => exact rfl); (case kF => exact rfl); (case kK => first | exact rfl | assumption); (case k1 => k_asm); (case k2 => k_asm); (case k3 => k_asm); (case k4 => k_asm); (case k5 => k_asm); (case k6 => k_is); (case k7 => k_is); (case k8 => ktr_room); (case k9 => exact BindsTo.of_eq rfl); (case c5 => decide); (case kB => exact locs rfl); (case c2 => exact rfl); (case c3 => exact rfl); (case c4 => exact rfl); k_whole; intro g' L' h' FG' F' N' B' X' T'; (try dsimp only [List.zip_cons_cons, List.zip_nil_right, List.zipWith]); (try k_lift B'); (try k_fold)))
  k_steps
  refine Hold.of ?_
  rename IsRange _ _ _ _ _ _ _ _ => hr
  rename Fr g' L' _ _ => F1
  rename News g' L' _ _ => N1
  rename (∀ p ∈ news, p.1 < _) => l1
  refine for_rangeJ (n := 1) (J := fun i m' nx => ∃ f k t t' t'', nx = (f, listOf (if i = 0 then #[] else #[.int 169 t]) k) :: news ∧ AllLt f news ∧ m' (Str.ofString "found") = some (.ref f) ∧ m' (Str.ofString "left") = some (.int (if i = 0 then 233 else 3) t') ∧ m' (Str.ofString "length") = some (.int 2 t'')) rfl hr (by decide) (by decide) F1 N1 ⟨_, _, 0, _, _, rfl, allLt_of l1, rfl, rfl, rfl⟩ ?_ ?_
  · rintro i u m₁ nx I oI h tk hi ⟨f, k, t, t', t'', rfl, hlt, e1, e2, e3⟩ hoff F2 N2
    obtain rfl : i = 0 := by omega
    have hne : @Ne Nat f I := hoff _ (.head _)
    have hoff' := fun p hp => hoff p (.tail _ hp)
    rw [if_pos rfl] at e2 N2
    have F3 := fr_known (y0 := Str.ofString "found") (v0 := .ref f) F2 (by show (if _ then _ else _) = _; rw [if_neg (by decide)]; exact e1)
    have F4 := fr_known (y0 := Str.ofString "left") (v0 := .int 233 t') F3 (by show (if _ then _ else _) = _; rw [if_neg (by decide)]; show (if _ then _ else _) = _; rw [if_neg (by decide)]; exact e2)
    clear F2 F3
    k_steps
    refine Hold.of ⟨_, _, _, (f, listOf #[.int 169 _] _) :: news, rfl, by k_asm, by k_asm, List.forall_mem_cons.mpr ⟨hne, hoff'⟩, ?_⟩
    exact ⟨_, _, _, _, _, rfl, hlt, rfl, rfl, e3⟩
  · rintro m₁ nx h tk ⟨f, k, t, t', t'', rfl, hlt, e1, e2, e3⟩ F2 N2
    rw [if_neg (by decide)] at e2 N2
    have F3 := fr_known (y0 := Str.ofString "found") (v0 := .ref f) F2 e1
    have F4 := fr_known (y0 := Str.ofString "left") (v0 := .int 3 t') F3 (by show (if _ then _ else _) = _; rw [if_neg (by decide)]; exact e2)
    have F5 := fr_known (y0 := Str.ofString "length") (v0 := .int 2 t'') F4 (by show (if _ then _ else _) = _; rw [if_neg (by decide)]; show (if _ then _ else _) = _; rw [if_neg (by decide)]; exact e3)
    clear F2 F3 F4
    k_steps
    exact hret _ _ _ _ _ _ (by first | assumption | exact And.right (by assumption) | exact And.right (And.right (by assumption)) | exact And.right (And.right (And.right (by assumption)))) (by k_asm) (keep2 (by assumption))
end
theorem utf8_twoN_c {c : Nat} {u : Tok} (hc : c = 233) : Below A₀ base outer h₀ → Fr h₀ L s.heap m → (hd.heap_1 w.params).In h₀ → News h₀ L s.heap (news) → Top p loose mean mg mb h₀ → cs.kind = .function → dp + 2 < recursionLimit → un + 16 < cLine →
   (∀ D t t' k h' tk', AllLt D news → Fr h₀ L h' m → News h₀ L h' ((D, listOf #[.int 195 t, .int 169 t'] k) :: news) → Q (.ref D) { s with heap := h', toks := tk' }) →
   wpAny (model PySem.Challenge.rw_or0047_01.row.prog w) (ktrTop dp un gd cn cs L a ccd cl outer) (call (.ref 98) [.int (c : Nat) u]) Q E s := by
  subst hc
  exact utf8_two_c
end
end Mine

-- deps: C9 L7
namespace Mine
theorem keepX {h₀ h : Heap} {L : Addr} {a b c : Addr × Obj} {news : List (Addr × Obj)} (N : News h₀ L h (a :: b :: c :: news)) : News h₀ L h (b :: c :: news) := fun p hp => N _ (.tail _ hp)
theorem keepH {h₀ h : Heap} {L : Addr} {a b : Addr × Obj} {news : List (Addr × Obj)} (N : News h₀ L h (a :: b :: news)) : News h₀ L h (b :: news) := fun p hp => N _ (.tail _ hp)
section
variable {w : World} {p : Program} {loose : List Str} {mean : ExcName → Option Value} {mg mb : Str → Option Value} {dp un : Nat} {gd : Option (List Code)} {cn : Str} {cs : Scope} {a : Addr} {ccd : Value} {cl : List (Str × Addr)} {outer : List Env} {A₀ : Around} {base h₀ : Heap} {L : Addr} {m : Str → Option Value} {news : List (Addr × Obj)} {s : Shared} {Q E : Value → Shared → Prop}
section
theorem octets_in_c {x : Str} {t u : Tok} (hx : ∀ c ∈ x.cps, c < 128 ∨ c = 233) (hn : x.cps.size ≤ 1000) : Below A₀ base outer h₀ → Fr h₀ L s.heap m → (hd.heap_1 w.params).In h₀ → News h₀ L s.heap (news) → Top p loose mean mg mb h₀ → cs.kind = .function → dp + 3 < recursionLimit → un + 24 < cLine →
   (∀ t' h' tk', Fr h₀ L h' m → News h₀ L h' news → Q (.bytes (byteArr (u8L x.cps.toList)) t') { s with heap := h', toks := tk' }) →
   wpAny (model PySem.Challenge.rw_or0047_01.row.prog w) (ktrTop dp un gd cn cs L a ccd cl outer) (call (.ref 112) [.str (Str.ofString "utf-8") u, .str x t]) Q E s := by
  k_with_none
  w_top off
  (k_with "exec For" => (k_here; (with_reducible show wpAny _ _ (exec (Stmt.For (Expr.Name _ _) _ _ _ _) _) _ _ _); with_unfolding_all (refine For_invVF (by assumption) (by rfl) (by rfl) ?_)))
  (k_with "pyIter ref" => (k_here; (with_reducible show wpAny _ _ (pyIter (Value.ref _)) (fun it s₂ => LoopAtV _ _ _ _ _ _ _ _ _ it s₂) _ _); refine Hold.out ?_))
  (k_with "TurnJ" => dsimp only [TurnJ])
  (k_with "call builtin:len" => (k_here; (with_reducible show wpAny _ _ (call (Value.builtin "len") [Value.str _ _]) _ _ _); refine P.len_str ?hzZr ?_; (case hzZr => (show ¬ ((_ : Int) ≥ 2 ^ 63); simp only [Str.length]; omega))))
  (k_with "subscriptTail Name Name str int" => (k_here; (with_reducible show wpAny _ _ (subscriptTail _ _ (Value.str _ _) (Value.int _ _)) _ _ _); refine' str_at ?h1Zr ?h2Zr ?h3Zr ?_; (case h1Zr => exact Int.zero_add _); (case h2Zr => assumption); (case h3Zr => assumption)))
  (k_with "call builtin:list.extend" => (k_here; (with_reducible show wpAny _ _ (call (Value.builtin _) [Value.ref _, Value.ref _]) _ _ _); k_dflt (refine' ext_led ?FZr ?NZr ?bZr ?UZr ?neZr ?zZr ?yZr ?_; (case FZr => k_asm); (case NZr => k_asm); (case bZr => k_mem); (case UZr => k_upd); (case neZr => exact Nat.succ_ne_zero _); (case zZr => assumption); (case yZr => exact Nat.le_of_ble_eq_true rfl)); intro _ _ _))
  (k_with "call type:bytes" => (k_here; (with_reducible show wpAny _ _ (call (Value.type "bytes") [Value.ref _]) _ _ _); refine' bytes_ints ?FZr ?NZr ?hhZr ?hlZr ?hiZr ?hrZr ?hnZr ?_; (case hiZr => assumption); (case FZr => k_asm); (case NZr => k_asm); (case hhZr => rfl); (case hlZr => exact News.isList (by assumption) (by k_mem)); (case hrZr => assumption); (case hnZr => assumption); intro _ _ _ _ _))
  (k_with "call ref" => (k_here; (with_reducible show wpAny _ _ (call (Value.ref 86) _) _ _ _); k_dflt (refine' need_charset_c ?k1Zr ?k2Zr ?k3Zr ?k4Zr ?k5Zr ?kKZr ?kdZr ?kuZr ?_; (case k1Zr => k_asm); (case k2Zr => k_asm); (case k3Zr => k_asm); (case k4Zr => k_asm); (case k5Zr => k_asm); (case kKZr => first | exact rfl | assumption); (case kdZr => ktr_room); (case kuZr => ktr_units); intro _ _ _ _)))
  (k_with "call ref" => (k_here; (with_reducible show wpAny _ _ (call (Value.ref 105) _) _ _ _); k_dflt (refine' has_sign_c ?haZr ?k1Zr ?k2Zr ?k3Zr ?k4Zr ?k5Zr ?kKZr ?kdZr ?kuZr ?_; (case k1Zr => k_asm); (case k2Zr => k_asm); (case k3Zr => k_asm); (case k4Zr => k_asm); (case k5Zr => k_asm); (case kKZr => first | exact rfl | assumption); (case kdZr => ktr_room); (case kuZr => ktr_units); (case haZr => assumption); intro _ _ _ _)))
  (k_with "call ref" => (k_here; (with_reducible show wpAny _ _ (call (Value.ref 98) _) _ _ _); k_dflt (refine' utf8_one_c ?haZr ?k1Zr ?k2Zr ?k3Zr ?k4Zr ?k5Zr ?kKZr ?kdZr ?kuZr ?_; (case k1Zr => k_asm); (case k2Zr => k_asm); (case k3Zr => k_asm); (case k4Zr => k_asm); (case k5Zr => k_asm); (case kKZr => first | exact rfl | assumption); (case kdZr => ktr_room); (case kuZr => ktr_units); (case haZr => assumption); intro _ _ _ _ _ l9; (simp only [AllLt, and_true] at l9); (revert l9; intro _ _ _))))
  (k_with "call ref" => (k_here; (with_reducible show wpAny _ _ (call (Value.ref 98) _) _ _ _); k_dflt (refine' utf8_twoN_c ?haZr ?k1Zr ?k2Zr ?k3Zr ?k4Zr ?k5Zr ?kKZr ?kdZr ?kuZr ?_; (case k1Zr => k_asm); (case k2Zr => k_asm); (case k3Zr => k_asm); (case k4Zr => k_asm); (case k5Zr => k_asm); (case kKZr => first | exact rfl | assumption); (case kdZr => ktr_room); (case kuZr => ktr_units); (case haZr => assumption); intro _ _ _ _ _ _ l9; (simp only [AllLt, and_true] at l9); (revert l9; intro _ _ _))))
  k_fill
  intro B F X N T hk hdp hun hret
  (k_dflt (refine' enter_def [Str.ofString "charset", Str.ofString "text"] ?k1 ?k2 ?k3 ?k4 ?k5 ?kA ?kF ?kK ?k6 ?k7 ?k8 ?k9 ?kB ?_ ?c2 ?c3 ?c4 ?c5; (case kA => exact rfl); (case kF => exact rfl); (case kK => first | exact rfl | assumption); (case k1 => k_asm); (case k2 => k_asm); (case k3 => k_asm); (case k4 => k_asm); (case k5 => k_asm); (case k6 => k_is); (case k7 => k_is); (case k8 => ktr_room); (case k9 => exact BindsTo.of_eq rfl); (case c5 => decide); (case kB => exact locs rfl); (case c2 => exact rfl); (case c3 => exact rfl); (case c4 => exact rfl); k_whole; intro g' L' h' FG' F' N' B' X' T'; (try dsimp only [List.zip_cons_cons, List.zip_nil_right, List.zipWith]); (try k_lift B'); (try k_fold)))
  k_steps
  refine Hold.of ?_
  rename IsRange _ _ _ _ _ _ _ _ => hr
  rename Fr g' L' _ _ => F1
  rename News g' L' _ _ => N1
  rename (∀ p ∈ news, p.1 < _) => l1
  refine for_rangeJ (n := x.length) (J := fun i m' nx => ∃ f k vs, nx = (f, listOf vs.toArray k) :: news ∧ AllLt f news ∧ IntsAre vs (u8L (x.cps.toList.take i)) ∧ m' (Str.ofString "row") = some (.ref f) ∧ m' (Str.ofString "text") = some (.str x t) ∧ m' (Str.ofString "charset") = some (.str (Str.ofString "utf-8") u)) rfl hr (small_one (by omega) (by omega) (by omega) (by simp only [Str.length]; omega)) (rangeSize_nat _ _) F1 N1 ⟨_, _, [], rfl, allLt_of l1, .nil, rfl, rfl, rfl⟩ ?_ ?_
  · rintro i u9 m₁ nx I oI h tk hi ⟨f, k, vs, rfl, hlt, hI, e1, e2, e3⟩ hoff F2 N2
    have hne : @Ne Nat f I := hoff _ (.head _)
    have hoff' := fun p hp => hoff p (.tail _ hp)
    have F3 := fr_known (y0 := Str.ofString "row") (v0 := .ref f) F2 (by show (if _ then _ else _) = _; rw [if_neg (by decide)]; exact e1)
    have F4 := fr_known (y0 := Str.ofString "text") (v0 := .str x t) F3 (by show (if _ then _ else _) = _; rw [if_neg (by decide)]; show (if _ then _ else _) = _; rw [if_neg (by decide)]; exact e2)
    have F5 := fr_known (y0 := Str.ofString "charset") (v0 := .str (Str.ofString "utf-8") u) F4 (by show (if _ then _ else _) = _; rw [if_neg (by decide)]; show (if _ then _ else _) = _; rw [if_neg (by decide)]; show (if _ then _ else _) = _; rw [if_neg (by decide)]; exact e3)
    clear F2 F3 F4
    have hc := hx (x.cps[i]'hi) (Array.getElem_mem hi)
    have hi' : i < x.cps.size := hi
    have hvl : vs.length ≤ 5000 := by
      rw [hI.length]
      have := u8L_length (x.cps.toList.take i)
      rw [List.length_take] at this
      omega
    have htake : u8L (x.cps.toList.take (i + 1)) = u8L (x.cps.toList.take i) ++ (if x.cps[i] < 128 then [((x.cps[i] : Nat) : Int)] else [195, 169]) := by
      rw [List.take_succ_eq_append_getElem (by simpa using hi'), u8L_append]
      simp [u8L]
    by_cases h1 : x.cps[i] < 128
    · rw [if_pos h1] at htake
      k_steps
      refine Hold.of ⟨_, _, _, (f, listOf _ _) :: news, rfl, by k_asm, keepX (by assumption), List.forall_mem_cons.mpr ⟨hne, hoff'⟩, ?_⟩
      exact ⟨_, _, _, rfl, hlt, htake ▸ IntsAre.append hI (.cons _ _ .nil), rfl, rfl, rfl⟩
    · have h2 : x.cps[i] = 233 := by omega
      rw [if_neg h1] at htake
      k_steps
      refine Hold.of ⟨_, _, _, (f, listOf _ _) :: news, rfl, by k_asm, keepX (by assumption), List.forall_mem_cons.mpr ⟨hne, hoff'⟩, ?_⟩
      exact ⟨_, _, _, rfl, hlt, htake ▸ IntsAre.append hI (.cons _ _ (.cons _ _ .nil)), rfl, rfl, rfl⟩
  · rintro m₁ nx h tk ⟨f, k, vs, rfl, hlt, hI, e1, e2, e3⟩ F2 N2
    have F3 := fr_known (y0 := Str.ofString "row") (v0 := .ref f) F2 e1
    clear F2
    have hI' : IntsAre vs (u8L x.cps.toList) := by
      have e : x.cps.toList.take x.length = x.cps.toList := List.take_of_length_le (by simp [Str.length])
      rw [e] at hI
      exact hI
    clear hI
    have hB := u8L_byte x.cps.toList
    have hL : (u8L x.cps.toList).length ≤ 10000 := by
      have q := u8L_length x.cps.toList
      have e : x.cps.toList.length = x.cps.size := Array.length_toList
      rw [e] at q
      exact Nat.le_trans q (Nat.le_trans (Nat.mul_le_mul_left 2 hn) (by decide))
    k_steps
    exact hret _ _ _ (by k_asm) (cb_drop (by assumption) (fun p hp => .tail _ hp))
end
end
end Mine

-- deps: C10 C7 L9
namespace Mine
section
open PyProof.V
variable {w : World} {p : Program} {loose : List Str} {mean : ExcName → Option Value} {mg mb : Str → Option Value} {dp un : Nat} {gd : Option (List Code)} {cn : Str} {cs : Scope} {a : Addr} {ccd : Value} {cl : List (Str × Addr)} {outer : List Env} {A₀ : Around} {base h₀ : Heap} {L : Addr} {m : Str → Option Value} {news : List (Addr × Obj)} {s : Shared} {Q E : Value → Shared → Prop}
section
theorem params_value_c {pd : Addr} {po : Obj} {kvs : List (Str × Value)} {ps sp : List (Str × Str)} (hP : ParOk ps sp) (hp : (pd, po) ∈ news) (lo : (pd == sysModules) = false) (hdo : po.IsDictOf (PySem.strKind PySem.Challenge.rw_or0047_01.row.prog w) kvs) (hf : FlatPairs PyData.str kvs (ps.map fun q => (PyData.str q.1, PyData.str q.2))) : Below A₀ base outer h₀ → Fr h₀ L s.heap m → (hd.heap_1 w.params).In h₀ → News h₀ L s.heap (news) → Top p loose mean mg mb h₀ → cs.kind = .function → dp + 4 < recursionLimit → un + 32 < cLine →
   (sp = [] → ∀ h' tk', Fr h₀ L h' m → News h₀ L h' news → Q .none { s with heap := h', toks := tk' }) →
   (sp ≠ [] → ∀ D vs k h' tk', AllLt D news → BytsAre vs (flatB sp) → Fr h₀ L h' m → News h₀ L h' ((D, listOf vs.toArray k) :: news) → Q (.ref D) { s with heap := h', toks := tk' }) →
   wpAny (model PySem.Challenge.rw_or0047_01.row.prog w) (ktrTop dp un gd cn cs L a ccd cl outer) (call (.ref 193) [.ref pd]) Q E s := by
  k_with_none
  w_top off
  (k_with "exec For" => (k_here; (with_reducible show wpAny _ _ (exec (Stmt.For (Expr.Name _ _) _ _ _ _) _) _ _ _); with_unfolding_all (refine For_invVF (by assumption) (by rfl) (by rfl) ?_)))
  (k_with "pyIter ref" => (k_here; (with_reducible show wpAny _ _ (pyIter (Value.ref _)) (fun it s₂ => LoopAtV _ _ _ _ _ _ _ _ _ it s₂) _ _); refine Hold.out ?_))
  (k_with "TurnJ" => dsimp only [TurnJ])
  (k_with "call builtin:sorted" => (k_here; (with_reducible show wpAny _ _ (call (Value.builtin "sorted") [Value.ref _]) _ _ _); k_dflt (refine' sorted_tab ?hhZr ?FZr ?NZr ?TZr ?hnZr ?_; (case hhZr => rfl); (case FZr => k_asm); (case NZr => k_asm); (case TZr => exact tab_led (by k_asm) (by repeat' (first | assumption | apply List.Mem.tail)) (by assumption) (by assumption) (by assumption)); (case hnZr => exact Nat.le_trans (ParOk.len (by assumption)) (by decide))); intro _ _ _ _ _ _ _ _ l9; (simp only [AllLt, and_true] at l9); (revert l9; intro _ _ _ _)))
  (k_with "subscriptTail Name Name ref str" => (k_here; k_dflt (refine' item_strTab ?TZr ?lZr (fun v9 hv9 => ?_) ?x1Zr ?x2Zr; (case TZr => exact tab_led (by k_asm) (by repeat' (first | assumption | apply List.Mem.tail)) (by assumption) (by assumption) (by assumption)); (case lZr => assumption); (case x1Zr => with_unfolding_all rfl); (case x2Zr => intro _; with_unfolding_all rfl)); (obtain ⟨u9, hu9⟩ := PyProof.V.Flat.str_inv hv9); subst hu9))
  (k_with "compareOp Eq ref ref" => (k_here; k_dflt (refine' eq_nil_led ?NZr ?aZr ?bZr ?uZr ?rZr ?_; (case NZr => k_asm); (case aZr => k_mem); (case bZr => k_mem); (case uZr => ktr_units); (case rZr => first | rfl | assumption))))
  (k_with "call ref" => (k_here; (with_reducible show wpAny _ _ (call (Value.ref 78) _) _ _ _); k_dflt (refine' sign_octets_c ?haZr ?hbZr ?k1Zr ?k2Zr ?k3Zr ?k4Zr ?k5Zr ?kKZr ?kdZr ?kuZr ?_; (case k1Zr => k_asm); (case k2Zr => k_asm); (case k3Zr => k_asm); (case k4Zr => k_asm); (case k5Zr => k_asm); (case kKZr => first | exact rfl | assumption); (case kdZr => ktr_room); (case kuZr => ktr_units); (case haZr => assumption); (case hbZr => assumption); intro _ _ _ _ _)))
  (k_with "call ref" => (k_here; (with_reducible show wpAny _ _ (call (Value.ref 112) _) _ _ _); k_dflt (refine' octets_in_c ?haZr ?hbZr ?k1Zr ?k2Zr ?k3Zr ?k4Zr ?k5Zr ?kKZr ?kdZr ?kuZr ?_; (case k1Zr => k_asm); (case k2Zr => k_asm); (case k3Zr => k_asm); (case k4Zr => k_asm); (case k5Zr => k_asm); (case kKZr => first | exact rfl | assumption); (case kdZr => ktr_room); (case kuZr => ktr_units); (case haZr => assumption); (case hbZr => assumption); intro _ _ _ _ _)))
  k_fill
  intro B F X N T hk hdp hun hret hret2
  (k_dflt (refine' enter_def [Str.ofString "params"] ?k1 ?k2 ?k3 ?k4 ?k5 ?kA ?kF ?kK ?k6 ?k7 ?k8 ?k9 ?kB ?_ ?c2 ?c3 ?c4 ?c5; (case kA => exact rfl); (case kF => exact rfl); (case kK => first | exact rfl | assumption); (case k1 => k_asm); (case k2 => k_asm); (case k3 => k_asm); (case k4 => k_asm); (case k5 => k_asm); (case k6 => k_is); (case k7 => k_is); (case k8 => ktr_room); (case k9 => exact BindsTo.of_eq rfl); (case c5 => decide); (case kB => exact locs rfl); (case c2 => exact rfl); (case c3 => exact rfl); (case c4 => exact rfl); k_whole; intro g' L' h' FG' F' N' B' X' T'; (try dsimp only [List.zip_cons_cons, List.zip_nil_right, List.zipWith]); (try k_lift B'); (try k_fold)))
  k_steps
  refine Hold.of ?_
  rename ParOk _ _ => hP
  rename StrsAre _ _ => hS
  rename sortedS _ = true => hO
  rename List.Perm _ _ => hpm
  rename Fr g' L' _ _ => F1
  rename News g' L' _ _ => N1
  rename (∀ p ∈ news, p.1 < _) => l1
  rename _ ∧ AllLt _ news => lB
  obtain rfl := sorted_uniq (hpm.trans hP.perm.symm) hO hP.sorted
  clear hO hpm
  rename_i fa _ _ _ _ Ba h9 tk9 ns c9
  have hlen : ns.length = sp.length := by rw [hS.length, List.length_map]
  refine for_listJ (J := fun i m' nx => ∃ vs k, nx = (Ba, listOf ns.toArray c9) :: (fa, listOf vs.toArray k) :: news ∧ BytsAre vs (flatB (sp.take i)) ∧ m' (Str.ofString "found") = some (.ref fa) ∧ m' (Str.ofString "params") = some (.ref pd)) rfl (.head _) ?_ F1 N1 ⟨[], 0, rfl, .nil, rfl, rfl⟩ ?_ ?_
  · rintro i m' nx ⟨vs, k, rfl, _⟩
    exact .head _
  · rintro i v m₁ nx I oI h tk hv ⟨vs, k, rfl, hI, e1, e2⟩ hoff F2 N2
    have hi : i < sp.length := by
      rw [← hlen]
      exact (List.getElem?_eq_some_iff.mp hv).1
    obtain ⟨t0, ht0⟩ := hS.get i (sp[i].1) (by simp [hi])
    rw [hv] at ht0
    cases ht0
    have hne : @Ne Nat fa I := hoff _ (.tail _ (.head _))
    have hne2 : @Ne Nat Ba I := hoff _ (.head _)
    obtain ⟨lB1, lB2⟩ := lB
    have lf := allLt_of l1
    have F3 := fr_known (y0 := Str.ofString "found") (v0 := .ref fa) F2 (by show (if _ then _ else _) = _; rw [if_neg (by decide)]; exact e1)
    have F4 := fr_known (y0 := Str.ofString "params") (v0 := .ref pd) F3 (by show (if _ then _ else _) = _; rw [if_neg (by decide)]; show (if _ then _ else _) = _; rw [if_neg (by decide)]; exact e2)
    clear F2 F3
    have hlk := hP.look _ (List.getElem_mem hi)
    obtain ⟨q1, q2, q3, q4⟩ := menu_name (hP.menu _ (List.getElem_mem hi))
    have htake : flatB (sp.take (i + 1)) = flatB (sp.take i) ++ [octS sp[i].1, byteArr (u8L sp[i].2.cps.toList)] := by
      rw [List.take_succ_eq_append_getElem hi, flatB_append]
      rfl
    have hvl : vs.length ≤ 5000 := by
      rw [hI.length, flatB_length, List.length_take]
      have := hP.perm.length_eq
      have := hP.len
      simp at *
      omega
    generalize sp[i] = pr at *
    obtain ⟨nm, tx⟩ := pr
    dsimp only at q1 q2 q3 q4 hlk htake
    k_steps
    rename News g' L' _ _ => N3
    simp only [List.push_toArray, List.append_assoc, List.cons_append, List.nil_append] at N3
    refine Hold.of ⟨_, _, _, (Ba, listOf ns.toArray c9) :: (fa, listOf (vs ++ [Value.bytes _ _, Value.bytes _ _]).toArray _) :: news, rfl, by k_asm, by k_asm, List.forall_mem_cons.mpr ⟨hne2, List.forall_mem_cons.mpr ⟨hne, fun p hp => hoff p (.tail _ (.tail _ hp))⟩⟩, ?_⟩
    exact ⟨_, _, rfl, htake ▸ hI.append (.cons _ _ (.cons _ _ .nil)), rfl, rfl⟩
  · rintro m₁ nx h tk ⟨vs, k, rfl, hI, e1, e2⟩ F2 N2
    have F3 := fr_known (y0 := Str.ofString "found") (v0 := .ref fa) F2 e1
    clear F2
    have hI' : BytsAre vs (flatB sp) := by
      rw [List.take_of_length_le (by rw [hlen]; exact Nat.le_refl _)] at hI
      exact hI
    clear hI
    have lf := allLt_of l1
    by_cases hsp : sp = []
    · have he : vs.isEmpty = true := by
        subst hsp
        cases hI'
        rfl
      k_steps
      exact hret hsp _ _ (by k_asm) (cb_drop (by assumption) (by intro p hp; repeat' (first | assumption | apply List.Mem.tail)))
    · have he : vs.isEmpty = false := by
        obtain ⟨q, r, rfl⟩ := List.exists_cons_of_ne_nil hsp
        cases hI'
        rfl
      k_steps
      exact hret2 hsp _ _ _ _ _ lf hI' (by k_asm) (fun p hp => (by k_asm : News h₀ L _ _) p (by
        rcases List.mem_cons.mp hp with rfl | hp
        · repeat' (first | exact List.Mem.head _ | apply List.Mem.tail)
        · repeat' (first | assumption | apply List.Mem.tail)))
end
end
end Mine

-- deps: C11 C6
namespace Mine
/-- a kind's object -/
def KindAt (news : List (Addr × Obj)) (ko : Addr) (top sub : Str) (pd : Addr) : Prop :=
  Ex10 fun kd a1 a2 a3 t1 t2 t3 u1 u2 k => (ko, instObj 266 kd) ∈ news ∧ (kd, dictOf [⟨a1, .str (Str.ofString "top") t1, .str top u1⟩, ⟨a2, .str (Str.ofString "sub") t2, .str sub u2⟩, ⟨a3, .str (Str.ofString "params") t3, .ref pd⟩] k) ∈ news
/-- a part's object -/
def PartAt (news : List (Addr × Obj)) (pa : Addr) (bo en : Int) (fl ko : Addr) (enc : Str) (ka : Addr) (inner : Value) : Prop :=
  Ex23 fun qd a1 a2 a3 a4 a5 a6 a7 a8 t1 t2 t3 t4 t5 t6 t7 t8 u1 u2 u3 u6 k bg => (pa, instObj 294 qd) ∈ news ∧ (qd, dictOf [⟨a1, .str (Str.ofString "begin") t1, .int bg u1⟩, ⟨a2, .str (Str.ofString "body") t2, .int bo u2⟩, ⟨a3, .str (Str.ofString "end") t3, .int en u3⟩, ⟨a4, .str (Str.ofString "fields") t4, .ref fl⟩,
    ⟨a5, .str (Str.ofString "kind") t5, .ref ko⟩, ⟨a6, .str (Str.ofString "encoding") t6, .str enc u6⟩, ⟨a7, .str (Str.ofString "kids") t7, .ref ka⟩, ⟨a8, .str (Str.ofString "inner") t8, inner⟩] k) ∈ news
/-- the menu of kinds -/
def kindMenu : List (Str × Str) := [(Str.ofString "text", Str.ofString "plain"), (Str.ofString "multipart", Str.ofString "mixed"), (Str.ofString "message", Str.ofString "rfc822"), (Str.ofString "image", Str.ofString "x-y"), (Str.ofString "message", Str.ofString "partial")]
/-- is it told as an opaque part? -/
def opq (top sub : Str) (kids : List Value) (inner : Value) : Bool := (top == Str.ofString "multipart" && kids.isEmpty) || (top == Str.ofString "message" && sub == Str.ofString "rfc822" && inner == .none)
section
variable {w : World} {p : Program} {loose : List Str} {mean : ExcName → Option Value} {mg mb : Str → Option Value} {dp un : Nat} {gd : Option (List Code)} {cn : Str} {cs : Scope} {a : Addr} {ccd : Value} {cl : List (Str × Addr)} {outer : List Env} {A₀ : Around} {base h₀ : Heap} {L : Addr} {m : Str → Option Value} {news : List (Addr × Obj)} {s : Shared} {Q E : Value → Shared → Prop}
section
local macro_rules | `(tactic| k_mem) => `(tactic| first | assumption | (refine List.Mem.tail _ ?_; first | assumption | (refine List.Mem.tail _ ?_; first | assumption | (refine List.Mem.tail _ ?_; first | assumption | (refine List.Mem.tail _ ?_; assumption)))))
theorem is_opaque_c {pa fl ko ka pd : Addr} {bo en : Int} {top sub enc : Str} {inner : Value} {kids : List Value} {kk : Nat} (hP : PartAt news pa bo en fl ko enc ka inner) (hK : KindAt news ko top sub pd) (hk0 : (ka, listOf kids.toArray kk) ∈ news) (hmenu : (top, sub) ∈ kindMenu)
   (hin : inner = .none ∨ ∃ x, inner = .ref x) : Below A₀ base outer h₀ → Fr h₀ L s.heap m → (hd.heap_1 w.params).In h₀ → News h₀ L s.heap (news) → Top p loose mean mg mb h₀ → cs.kind = .function → dp + 2 < recursionLimit → un + 16 < cLine →
   (∀ h' tk', Fr h₀ L h' m → News h₀ L h' news → Q (.bool (opq top sub kids inner)) { s with heap := h', toks := tk' }) →
   wpAny (model PySem.Challenge.rw_or0047_01.row.prog w) (ktrTop dp un gd cn cs L a ccd cl outer) (call (.ref 200) [.ref pa]) Q E s := by
  k_with_none
  w_top off
  (k_with "call ref" => (k_here; (with_reducible show wpAny _ _ (call (Value.ref 249) _) _ _ _); k_dflt (refine' enter_def [Str.ofString "self"] ?k1Zr ?k2Zr ?k3Zr ?k4Zr ?k5Zr ?kAZr ?kFZr ?kKZr ?k6Zr ?k7Zr ?k8Zr ?k9Zr ?kBZr ?_ ?c2Zr ?c3Zr ?c4Zr ?c5Zr; (case kAZr => exact rfl); (case kFZr => exact rfl); (case kKZr => first | exact rfl | assumption); (case k1Zr => k_asm); (case k2Zr => k_asm); (case k3Zr => k_asm); (case k4Zr => k_asm); (case k5Zr => k_asm); (case k6Zr => k_is); (case k7Zr => k_is); (case k8Zr => ktr_room); (case k9Zr => exact BindsTo.of_eq rfl); (case c5Zr => decide); (case kBZr => exact locs rfl); (case c2Zr => exact rfl); (case c3Zr => exact rfl); (case c4Zr => exact rfl); k_whole; intro _ _ _ _ _ _ B' _ _; (try dsimp only [List.zip_cons_cons, List.zip_nil_right, List.zipWith]); (try k_lift B'); (try k_fold))))
  (k_with "call ref" => (k_here; (with_reducible show wpAny _ _ (call (Value.ref 256) _) _ _ _); k_dflt (refine' enter_def [Str.ofString "self"] ?k1Zr ?k2Zr ?k3Zr ?k4Zr ?k5Zr ?kAZr ?kFZr ?kKZr ?k6Zr ?k7Zr ?k8Zr ?k9Zr ?kBZr ?_ ?c2Zr ?c3Zr ?c4Zr ?c5Zr; (case kAZr => exact rfl); (case kFZr => exact rfl); (case kKZr => first | exact rfl | assumption); (case k1Zr => k_asm); (case k2Zr => k_asm); (case k3Zr => k_asm); (case k4Zr => k_asm); (case k5Zr => k_asm); (case k6Zr => k_is); (case k7Zr => k_is); (case k8Zr => ktr_room); (case k9Zr => exact BindsTo.of_eq rfl); (case c5Zr => decide); (case kBZr => exact locs rfl); (case c2Zr => exact rfl); (case c3Zr => exact rfl); (case c4Zr => exact rfl); k_whole; intro _ _ _ _ _ _ B' _ _; (try dsimp only [List.zip_cons_cons, List.zip_nil_right, List.zipWith]); (try k_lift B'); (try k_fold))))
  (k_with "compareOp Eq ref ref" => (k_here; first | k_dflt (refine' eq_nil_led (r := true) ?NZr ?aZr ?bZr ?uZr ?rZr ?_; (case NZr => k_asm); (case aZr => repeat' (first | assumption | exact List.Mem.head _ | apply List.Mem.tail)); (case bZr => k_mem); (case uZr => ktr_units); (case rZr => exact rfl)) | k_dflt (refine' eq_nil_led (r := false) ?NZr ?aZr ?bZr ?uZr ?rZr ?_; (case NZr => k_asm); (case aZr => repeat' (first | assumption | exact List.Mem.head _ | apply List.Mem.tail)); (case bZr => k_mem); (case uZr => ktr_units); (case rZr => exact rfl))))
  k_fill
  intro B F X N T hk hdp hun hret
  obtain ⟨qd, a1, a2, a3, a4, a5, a6, a7, a8, t1, t2, t3, t4, t5, t6, t7, t8, u1, u2, u3, u6, k, bg, hp1, hp2⟩ := hP
  obtain ⟨kd, c1, c2, c3, e1, e2, e3, v1, v2, k', hk1, hk2⟩ := hK
  simp only [kindMenu, List.mem_cons, List.mem_nil_iff, or_false, Prod.mk.injEq] at hmenu
  rcases hmenu with ⟨rfl, rfl⟩ | ⟨rfl, rfl⟩ | ⟨rfl, rfl⟩ | ⟨rfl, rfl⟩ | ⟨rfl, rfl⟩
  · rw [show opq (Str.ofString "text") (Str.ofString "plain") kids inner = false from rfl] at hret
    (k_dflt (refine' enter_def [Str.ofString "part"] ?k1 ?k2 ?k3 ?k4 ?k5 ?kA ?kF ?kK ?k6 ?k7 ?k8 ?k9 ?kB ?_ ?c2 ?c3 ?c4 ?c5; (case kA => exact rfl); (case kF => exact rfl); (case kK => first | exact rfl | assumption); (case k1 => k_asm); (case k2 => k_asm); (case k3 => k_asm); (case k4 => k_asm); (case k5 => k_asm); (case k6 => k_is); (case k7 => k_is); (case k8 => ktr_room); (case k9 => exact BindsTo.of_eq rfl); (case c5 => decide); (case kB => exact locs rfl); (case c2 => exact rfl); (case c3 => exact rfl); (case c4 => exact rfl); k_whole; intro g' L' h' FG' F' N' B' X' T'; (try dsimp only [List.zip_cons_cons, List.zip_nil_right, List.zipWith]); (try k_lift B'); (try k_fold)))
    k_steps
    exact hret _ _ (by k_asm) (by k_asm)
  · cases kids with
    | nil =>
      rw [show opq (Str.ofString "multipart") (Str.ofString "mixed") [] inner = true from rfl] at hret
      (k_dflt (refine' enter_def [Str.ofString "part"] ?k1 ?k2 ?k3 ?k4 ?k5 ?kA ?kF ?kK ?k6 ?k7 ?k8 ?k9 ?kB ?_ ?c2 ?c3 ?c4 ?c5; (case kA => exact rfl); (case kF => exact rfl); (case kK => first | exact rfl | assumption); (case k1 => k_asm); (case k2 => k_asm); (case k3 => k_asm); (case k4 => k_asm); (case k5 => k_asm); (case k6 => k_is); (case k7 => k_is); (case k8 => ktr_room); (case k9 => exact BindsTo.of_eq rfl); (case c5 => decide); (case kB => exact locs rfl); (case c2 => exact rfl); (case c3 => exact rfl); (case c4 => exact rfl); k_whole; intro g' L' h' FG' F' N' B' X' T'; (try dsimp only [List.zip_cons_cons, List.zip_nil_right, List.zipWith]); (try k_lift B'); (try k_fold)))
      k_steps
      exact hret _ _ (by k_asm) (cb_drop (by assumption) (by kcj_all))
    | cons x r =>
      rw [show opq (Str.ofString "multipart") (Str.ofString "mixed") (x :: r) inner = false from rfl] at hret
      (k_dflt (refine' enter_def [Str.ofString "part"] ?k1 ?k2 ?k3 ?k4 ?k5 ?kA ?kF ?kK ?k6 ?k7 ?k8 ?k9 ?kB ?_ ?c2 ?c3 ?c4 ?c5; (case kA => exact rfl); (case kF => exact rfl); (case kK => first | exact rfl | assumption); (case k1 => k_asm); (case k2 => k_asm); (case k3 => k_asm); (case k4 => k_asm); (case k5 => k_asm); (case k6 => k_is); (case k7 => k_is); (case k8 => ktr_room); (case k9 => exact BindsTo.of_eq rfl); (case c5 => decide); (case kB => exact locs rfl); (case c2 => exact rfl); (case c3 => exact rfl); (case c4 => exact rfl); k_whole; intro g' L' h' FG' F' N' B' X' T'; (try dsimp only [List.zip_cons_cons, List.zip_nil_right, List.zipWith]); (try k_lift B'); (try k_fold)))
      k_steps
      exact hret _ _ (by k_asm) (cb_drop (by assumption) (by kcj_all))
  · rcases hin with rfl | ⟨x, rfl⟩
    · rw [show opq (Str.ofString "message") (Str.ofString "rfc822") kids .none = true by with_unfolding_all rfl] at hret
      (k_dflt (refine' enter_def [Str.ofString "part"] ?k1 ?k2 ?k3 ?k4 ?k5 ?kA ?kF ?kK ?k6 ?k7 ?k8 ?k9 ?kB ?_ ?c2 ?c3 ?c4 ?c5; (case kA => exact rfl); (case kF => exact rfl); (case kK => first | exact rfl | assumption); (case k1 => k_asm); (case k2 => k_asm); (case k3 => k_asm); (case k4 => k_asm); (case k5 => k_asm); (case k6 => k_is); (case k7 => k_is); (case k8 => ktr_room); (case k9 => exact BindsTo.of_eq rfl); (case c5 => decide); (case kB => exact locs rfl); (case c2 => exact rfl); (case c3 => exact rfl); (case c4 => exact rfl); k_whole; intro g' L' h' FG' F' N' B' X' T'; (try dsimp only [List.zip_cons_cons, List.zip_nil_right, List.zipWith]); (try k_lift B'); (try k_fold)))
      k_steps
      exact hret _ _ (by k_asm) (by k_asm)
    · rw [show opq (Str.ofString "message") (Str.ofString "rfc822") kids (.ref x) = false by with_unfolding_all rfl] at hret
      (k_dflt (refine' enter_def [Str.ofString "part"] ?k1 ?k2 ?k3 ?k4 ?k5 ?kA ?kF ?kK ?k6 ?k7 ?k8 ?k9 ?kB ?_ ?c2 ?c3 ?c4 ?c5; (case kA => exact rfl); (case kF => exact rfl); (case kK => first | exact rfl | assumption); (case k1 => k_asm); (case k2 => k_asm); (case k3 => k_asm); (case k4 => k_asm); (case k5 => k_asm); (case k6 => k_is); (case k7 => k_is); (case k8 => ktr_room); (case k9 => exact BindsTo.of_eq rfl); (case c5 => decide); (case kB => exact locs rfl); (case c2 => exact rfl); (case c3 => exact rfl); (case c4 => exact rfl); k_whole; intro g' L' h' FG' F' N' B' X' T'; (try dsimp only [List.zip_cons_cons, List.zip_nil_right, List.zipWith]); (try k_lift B'); (try k_fold)))
      k_steps
      exact hret _ _ (by k_asm) (by k_asm)
  · rw [show opq (Str.ofString "image") (Str.ofString "x-y") kids inner = false from rfl] at hret
    (k_dflt (refine' enter_def [Str.ofString "part"] ?k1 ?k2 ?k3 ?k4 ?k5 ?kA ?kF ?kK ?k6 ?k7 ?k8 ?k9 ?kB ?_ ?c2 ?c3 ?c4 ?c5; (case kA => exact rfl); (case kF => exact rfl); (case kK => first | exact rfl | assumption); (case k1 => k_asm); (case k2 => k_asm); (case k3 => k_asm); (case k4 => k_asm); (case k5 => k_asm); (case k6 => k_is); (case k7 => k_is); (case k8 => ktr_room); (case k9 => exact BindsTo.of_eq rfl); (case c5 => decide); (case kB => exact locs rfl); (case c2 => exact rfl); (case c3 => exact rfl); (case c4 => exact rfl); k_whole; intro g' L' h' FG' F' N' B' X' T'; (try dsimp only [List.zip_cons_cons, List.zip_nil_right, List.zipWith]); (try k_lift B'); (try k_fold)))
    k_steps
    exact hret _ _ (by k_asm) (by k_asm)
  · rw [show opq (Str.ofString "message") (Str.ofString "partial") kids inner = false from rfl] at hret
    (k_dflt (refine' enter_def [Str.ofString "part"] ?k1 ?k2 ?k3 ?k4 ?k5 ?kA ?kF ?kK ?k6 ?k7 ?k8 ?k9 ?kB ?_ ?c2 ?c3 ?c4 ?c5; (case kA => exact rfl); (case kF => exact rfl); (case kK => first | exact rfl | assumption); (case k1 => k_asm); (case k2 => k_asm); (case k3 => k_asm); (case k4 => k_asm); (case k5 => k_asm); (case k6 => k_is); (case k7 => k_is); (case k8 => ktr_room); (case k9 => exact BindsTo.of_eq rfl); (case c5 => decide); (case kB => exact locs rfl); (case c2 => exact rfl); (case c3 => exact rfl); (case c4 => exact rfl); k_whole; intro g' L' h' FG' F' N' B' X' T'; (try dsimp only [List.zip_cons_cons, List.zip_nil_right, List.zipWith]); (try k_lift B'); (try k_fold)))
    k_steps
    exact hret _ _ (by k_asm) (by k_asm)
end
end
end Mine

-- deps: C12
namespace Mine
/-- the parameters' dict -/
def ParAt (w : World) (news : List (Addr × Obj)) (pd : Addr) (ps : List (Str × Str)) : Prop :=
  ∃ po kvs, (pd, po) ∈ news ∧ (pd == sysModules) = false ∧ po.IsDictOf (PySem.strKind PySem.Challenge.rw_or0047_01.row.prog w) kvs ∧ PyProof.V.FlatPairs PyData.str kvs (ps.map fun q => (PyData.str q.1, PyData.str q.2))
theorem menu_kind {top sub : Str} (h : (top, sub) ∈ kindMenu) : (∀ c ∈ top.cps, c < 256) ∧ top.cps.size ≤ 1000 ∧ (∀ c ∈ sub.cps, c < 256) ∧ sub.cps.size ≤ 1000 := by
  simp only [kindMenu, List.mem_cons, List.mem_nil_iff, or_false, Prod.mk.injEq] at h
  rcases h with ⟨rfl, rfl⟩ | ⟨rfl, rfl⟩ | ⟨rfl, rfl⟩ | ⟨rfl, rfl⟩ | ⟨rfl, rfl⟩ <;> exact ⟨by decide +kernel, by decide +kernel, by decide +kernel, by decide +kernel⟩
def appB : Array UInt8 := #[97, 112, 112, 108, 105, 99, 97, 116, 105, 111, 110]
def octB : Array UInt8 := #[111, 99, 116, 101, 116, 45, 115, 116, 114, 101, 97, 109]
section
variable {w : World} {p : Program} {loose : List Str} {mean : ExcName → Option Value} {mg mb : Str → Option Value} {dp un : Nat} {gd : Option (List Code)} {cn : Str} {cs : Scope} {a : Addr} {ccd : Value} {cl : List (Str × Addr)} {outer : List Env} {A₀ : Around} {base h₀ : Heap} {L : Addr} {m : Str → Option Value} {news : List (Addr × Obj)} {s : Shared} {Q E : Value → Shared → Prop}
section
local macro_rules | `(tactic| k_mem) => `(tactic| first | assumption | (refine List.Mem.tail _ ?_; first | assumption | (refine List.Mem.tail _ ?_; first | assumption | (refine List.Mem.tail _ ?_; first | assumption | (refine List.Mem.tail _ ?_; assumption)))))
theorem kind_values_c {pa fl ko ka pd : Addr} {bo en : Int} {top sub enc : Str} {inner : Value} {kids : List Value} {kk : Nat} {ps sp : List (Str × Str)} (hP : PartAt news pa bo en fl ko enc ka inner) (hK : KindAt news ko top sub pd) (hk0 : (ka, listOf kids.toArray kk) ∈ news) (hmenu : (top, sub) ∈ kindMenu)
   (hin : inner = .none ∨ ∃ x, inner = .ref x) (hpar : ParAt w news pd ps) (hps : ParOk ps sp) : Below A₀ base outer h₀ → Fr h₀ L s.heap m → (hd.heap_1 w.params).In h₀ → News h₀ L s.heap (news) → Top p loose mean mg mb h₀ → cs.kind = .function → dp + 5 < recursionLimit → un + 40 < cLine →
   (opq top sub kids inner = true → ∀ D t1 t2 k h' tk', AllLt D news → Fr h₀ L h' m → News h₀ L h' ((D, listOf #[.bytes appB t1, .bytes octB t2, .none] k) :: news) → Q (.ref D) { s with heap := h', toks := tk' }) →
   (opq top sub kids inner = false → sp = [] → ∀ D t1 t2 k h' tk', AllLt D news → Fr h₀ L h' m → News h₀ L h' ((D, listOf #[.bytes (octS top) t1, .bytes (octS sub) t2, .none] k) :: news) → Q (.ref D) { s with heap := h', toks := tk' }) →
   (opq top sub kids inner = false → sp ≠ [] → ∀ D PD vs t1 t2 k k' h' tk', @LT.lt Nat _ PD D → AllLt D news → AllLt PD news → BytsAre vs (flatB sp) → Fr h₀ L h' m → News h₀ L h' ((D, listOf #[.bytes (octS top) t1, .bytes (octS sub) t2, .ref PD] k) :: (PD, listOf vs.toArray k') :: news) → Q (.ref D) { s with heap := h', toks := tk' }) →
   wpAny (model PySem.Challenge.rw_or0047_01.row.prog w) (ktrTop dp un gd cn cs L a ccd cl outer) (call (.ref 207) [.ref pa]) Q E s := by
  k_with_none
  w_top off
  (k_with "call ref" => (k_here; (with_reducible show wpAny _ _ (call (Value.ref 200) _) _ _ _); k_dflt (refine' is_opaque_c ?haZr ?hbZr ?hcZr ?hdZr ?heZr ?k1Zr ?k2Zr ?k3Zr ?k4Zr ?k5Zr ?kKZr ?kdZr ?kuZr ?_; (case k1Zr => k_asm); (case k2Zr => k_asm); (case k3Zr => k_asm); (case k4Zr => k_asm); (case k5Zr => k_asm); (case kKZr => first | exact rfl | assumption); (case kdZr => ktr_room); (case kuZr => ktr_units); (case haZr => assumption); (case hbZr => assumption); (case hcZr => assumption); (case hdZr => assumption); (case heZr => assumption); intro _ _ _ _; (rename opq _ _ _ _ = _ => e9; rw [e9]))))
  (k_with "call ref" => (k_here; (with_reducible show wpAny _ _ (call (Value.ref 78) _) _ _ _); k_dflt (refine' sign_octets_c ?haZr ?hbZr ?k1Zr ?k2Zr ?k3Zr ?k4Zr ?k5Zr ?kKZr ?kdZr ?kuZr ?_; (case k1Zr => k_asm); (case k2Zr => k_asm); (case k3Zr => k_asm); (case k4Zr => k_asm); (case k5Zr => k_asm); (case kKZr => first | exact rfl | assumption); (case kdZr => ktr_room); (case kuZr => ktr_units); (case haZr => assumption); (case hbZr => assumption); intro _ _ _ _ _)))
  k_fill
  intro B F X N T hk hdp hun hret1 hret2 hret3
  obtain ⟨m1, m2, m3, m4⟩ := menu_kind hmenu
  have hP0 := hP
  have hK0 := hK
  obtain ⟨qd, a1, a2, a3, a4, a5, a6, a7, a8, t1, t2, t3, t4, t5, t6, t7, t8, u1, u2, u3, u6, k, bg, hp1, hp2⟩ := hP
  obtain ⟨kd, c1, c2, c3, e1, e2, e3, v1, v2, k', hk1, hk2⟩ := hK
  obtain ⟨po, kvs, hq1, hq2, hq3, hq4⟩ := hpar
  cases ho : opq top sub kids inner with
  | true =>
    clear hret2 hret3
    have ho2 := ho
    (k_dflt (refine' enter_def [Str.ofString "part"] ?k1 ?k2 ?k3 ?k4 ?k5 ?kA ?kF ?kK ?k6 ?k7 ?k8 ?k9 ?kB ?_ ?c2 ?c3 ?c4 ?c5; (case kA => exact rfl); (case kF => exact rfl); (case kK => first | exact rfl | assumption); (case k1 => k_asm); (case k2 => k_asm); (case k3 => k_asm); (case k4 => k_asm); (case k5 => k_asm); (case k6 => k_is); (case k7 => k_is); (case k8 => ktr_room); (case k9 => exact BindsTo.of_eq rfl); (case c5 => decide); (case kB => exact locs rfl); (case c2 => exact rfl); (case c3 => exact rfl); (case c4 => exact rfl); k_whole; intro g' L' h' FG' F' N' B' X' T'; (try dsimp only [List.zip_cons_cons, List.zip_nil_right, List.zipWith]); (try k_lift B'); (try k_fold)))
    k_steps
    exact hret1 ho _ _ _ _ _ _ (allLt_of (by assumption)) (by k_asm) (by k_asm)
  | false =>
    clear hret1
    have ho2 := ho
    by_cases hsp : sp = []
    · clear hret3
      (k_dflt (refine' enter_def [Str.ofString "part"] ?k1 ?k2 ?k3 ?k4 ?k5 ?kA ?kF ?kK ?k6 ?k7 ?k8 ?k9 ?kB ?_ ?c2 ?c3 ?c4 ?c5; (case kA => exact rfl); (case kF => exact rfl); (case kK => first | exact rfl | assumption); (case k1 => k_asm); (case k2 => k_asm); (case k3 => k_asm); (case k4 => k_asm); (case k5 => k_asm); (case k6 => k_is); (case k7 => k_is); (case k8 => ktr_room); (case k9 => exact BindsTo.of_eq rfl); (case c5 => decide); (case kB => exact locs rfl); (case c2 => exact rfl); (case c3 => exact rfl); (case c4 => exact rfl); k_whole; intro g' L' h' FG' F' N' B' X' T'; (try dsimp only [List.zip_cons_cons, List.zip_nil_right, List.zipWith]); (try k_lift B'); (try k_fold)))
      k_steps
      refine' params_value_c hps hq1 hq2 hq3 hq4 ?k1 ?k2 ?k3 ?k4 ?k5 ?kK ?kd ?ku ?_ (fun h9 => absurd hsp h9)
      case k1 => k_asm
      case k2 => k_asm
      case k3 => k_asm
      case k4 => k_asm
      case k5 => k_asm
      case kK => exact rfl
      case kd => ktr_room
      case ku => ktr_units
      intro _ h9 tk9 F9 N9
      k_steps
      exact hret2 ho hsp _ _ _ _ _ _ (allLt_of (by assumption)) (by k_asm) (by k_asm)
    · clear hret2
      (k_dflt (refine' enter_def [Str.ofString "part"] ?k1 ?k2 ?k3 ?k4 ?k5 ?kA ?kF ?kK ?k6 ?k7 ?k8 ?k9 ?kB ?_ ?c2 ?c3 ?c4 ?c5; (case kA => exact rfl); (case kF => exact rfl); (case kK => first | exact rfl | assumption); (case k1 => k_asm); (case k2 => k_asm); (case k3 => k_asm); (case k4 => k_asm); (case k5 => k_asm); (case k6 => k_is); (case k7 => k_is); (case k8 => ktr_room); (case k9 => exact BindsTo.of_eq rfl); (case c5 => decide); (case kB => exact locs rfl); (case c2 => exact rfl); (case c3 => exact rfl); (case c4 => exact rfl); k_whole; intro g' L' h' FG' F' N' B' X' T'; (try dsimp only [List.zip_cons_cons, List.zip_nil_right, List.zipWith]); (try k_lift B'); (try k_fold)))
      k_steps
      refine' params_value_c hps hq1 hq2 hq3 hq4 ?k1 ?k2 ?k3 ?k4 ?k5 ?kK ?kd ?ku (fun h9 => absurd h9 hsp) ?_
      case k1 => k_asm
      case k2 => k_asm
      case k3 => k_asm
      case k4 => k_asm
      case k5 => k_asm
      case kK => exact rfl
      case kd => ktr_room
      case ku => ktr_units
      intro _ D9 vs9 k9 h9 tk9 l9 B9 F9 N9
      k_steps
      exact hret3 ho hsp _ _ _ _ _ _ _ _ _ (by omega) (And.right (by assumption)) l9 B9 (by k_asm) (by k_asm)
end
end
end Mine

-- deps: C13
namespace Mine
theorem keep4 {h₀ h : Heap} {L : Addr} {a b c d : Addr × Obj} {news : List (Addr × Obj)} (N : News h₀ L h (a :: b :: c :: d :: news)) : News h₀ L h (a :: d :: news) := fun p hp => by
  rcases List.mem_cons.mp hp with rfl | hp
  · exact N _ (.head _)
  · exact N _ (.tail _ (.tail _ (.tail _ hp)))
section
variable {w : World} {p : Program} {loose : List Str} {mean : ExcName → Option Value} {mg mb : Str → Option Value} {dp un : Nat} {gd : Option (List Code)} {cn : Str} {cs : Scope} {a : Addr} {ccd : Value} {cl : List (Str × Addr)} {outer : List Env} {A₀ : Around} {base h₀ : Heap} {L : Addr} {m : Str → Option Value} {news : List (Addr × Obj)} {s : Shared} {Q E : Value → Shared → Prop}
section
local macro_rules | `(tactic| k_mem) => `(tactic| first | assumption | (refine List.Mem.tail _ ?_; first | assumption | (refine List.Mem.tail _ ?_; first | assumption | (refine List.Mem.tail _ ?_; first | assumption | (refine List.Mem.tail _ ?_; assumption)))))
theorem leaf_values_c {pa fl ko ka pd : Addr} {bo en : Int} {top sub enc : Str} {inner : Value} {kids vs : List Value} {kk nn : Nat} {ps sp : List (Str × Str)} {fs : List (Array UInt8 × Array UInt8)} (hP : PartAt news pa bo en fl ko enc ka inner) (hK : KindAt news ko top sub pd) (hk0 : (ka, listOf kids.toArray kk) ∈ news) (hmenu : (top, sub) ∈ kindMenu)
   (hin : inner = .none ∨ ∃ x, inner = .ref x) (hpar : ParAt w news pd ps) (hps : ParOk ps sp) (hl : (fl, listOf vs.toArray nn) ∈ news) (hF : Fields news vs fs) (hn : ∀ f ∈ fs, f.1.size ≤ 1000)
   (hr1 : ∀ f ∈ fs, wordOf f.1 = lowS (Str.ofString "content-id") → RawOk f.2) (hr2 : ∀ f ∈ fs, wordOf f.1 = lowS (Str.ofString "content-description") → RawOk f.2) (he1 : ∀ c ∈ enc.cps, c < 256) (he2 : enc.cps.size ≤ 1000) : Below A₀ base outer h₀ → Fr h₀ L s.heap m → (hd.heap_1 w.params).In h₀ → News h₀ L s.heap (news) → Top p loose mean mg mb h₀ → cs.kind = .function → dp + 6 < recursionLimit → un + 48 < cLine →
   (opq top sub kids inner = true → ∀ D t1 t2 t3 t4 t5 t6 k h' tk', AllLt D news → Fr h₀ L h' m → News h₀ L h' ((D, listOf #[.bytes appB t1, .bytes octB t2, .none, optB (fbV (lowS (Str.ofString "content-id")) fs) t3, optB (fbV (lowS (Str.ofString "content-description")) fs) t4, .bytes (octS enc) t5, .int (en - bo) t6] k) :: news) → Q (.ref D) { s with heap := h', toks := tk' }) →
   (opq top sub kids inner = false → sp = [] → ∀ D t1 t2 t3 t4 t5 t6 k h' tk', AllLt D news → Fr h₀ L h' m → News h₀ L h' ((D, listOf #[.bytes (octS top) t1, .bytes (octS sub) t2, .none, optB (fbV (lowS (Str.ofString "content-id")) fs) t3, optB (fbV (lowS (Str.ofString "content-description")) fs) t4, .bytes (octS enc) t5, .int (en - bo) t6] k) :: news) → Q (.ref D) { s with heap := h', toks := tk' }) →
   (opq top sub kids inner = false → sp ≠ [] → ∀ D PD vs t1 t2 t3 t4 t5 t6 k k' h' tk', @LT.lt Nat _ PD D → AllLt D news → AllLt PD news → BytsAre vs (flatB sp) → Fr h₀ L h' m → News h₀ L h' ((D, listOf #[.bytes (octS top) t1, .bytes (octS sub) t2, .ref PD, optB (fbV (lowS (Str.ofString "content-id")) fs) t3, optB (fbV (lowS (Str.ofString "content-description")) fs) t4, .bytes (octS enc) t5, .int (en - bo) t6] k) :: (PD, listOf vs.toArray k') :: news) → Q (.ref D) { s with heap := h', toks := tk' }) →
   wpAny (model PySem.Challenge.rw_or0047_01.row.prog w) (ktrTop dp un gd cn cs L a ccd cl outer) (call (.ref 221) [.ref pa]) Q E s := by
  k_with_none
  w_top off
  (k_with "call ref" => (k_here; (with_reducible show wpAny _ _ (call (Value.ref 214) _) _ _ _); k_dflt (refine' enter_def [Str.ofString "part"] ?k1Zr ?k2Zr ?k3Zr ?k4Zr ?k5Zr ?kAZr ?kFZr ?kKZr ?k6Zr ?k7Zr ?k8Zr ?k9Zr ?kBZr ?_ ?c2Zr ?c3Zr ?c4Zr ?c5Zr; (case kAZr => exact rfl); (case kFZr => exact rfl); (case kKZr => first | exact rfl | assumption); (case k1Zr => k_asm); (case k2Zr => k_asm); (case k3Zr => k_asm); (case k4Zr => k_asm); (case k5Zr => k_asm); (case k6Zr => k_is); (case k7Zr => k_is); (case k8Zr => ktr_room); (case k9Zr => exact BindsTo.of_eq rfl); (case c5Zr => decide); (case kBZr => exact locs rfl); (case c2Zr => exact rfl); (case c3Zr => exact rfl); (case c4Zr => exact rfl); k_whole; intro _ _ _ _ _ _ B' _ _; (try dsimp only [List.zip_cons_cons, List.zip_nil_right, List.zipWith]); (try k_lift B'); (try k_fold))))
  (k_with "call ref" => (k_here; (with_reducible show wpAny _ _ (call (Value.ref 78) _) _ _ _); k_dflt (refine' sign_octets_c ?haZr ?hbZr ?k1Zr ?k2Zr ?k3Zr ?k4Zr ?k5Zr ?kKZr ?kdZr ?kuZr ?_; (case k1Zr => k_asm); (case k2Zr => k_asm); (case k3Zr => k_asm); (case k4Zr => k_asm); (case k5Zr => k_asm); (case kKZr => first | exact rfl | assumption); (case kdZr => ktr_room); (case kuZr => ktr_units); (case haZr => assumption); (case hbZr => assumption); intro _ _ _ _ _)))
  (k_with "call ref" => (k_here; (with_reducible show wpAny _ _ (call (Value.ref 185) _) _ _ _); k_dflt (refine' first_body_c ?haZr ?hbZr ?hcZr ?hdZr ?heZr ?hfZr ?k1Zr ?k2Zr ?k3Zr ?k4Zr ?k5Zr ?kKZr ?kdZr ?kuZr ?_; (case k1Zr => k_asm); (case k2Zr => k_asm); (case k3Zr => k_asm); (case k4Zr => k_asm); (case k5Zr => k_asm); (case kKZr => first | exact rfl | assumption); (case kdZr => ktr_room); (case kuZr => ktr_units); (case haZr => assumption); (case hbZr => assumption); (case hcZr => assumption); (case hdZr => assumption); (case heZr => assumption); (case hfZr => assumption); intro _ _ _ _ _)))
  k_fill
  intro B F X N T hk hdp hun hret1 hret2 hret3
  have hw1 : ∀ c ∈ (Str.ofString "content-id").cps, c < 1114000 := by decide +kernel
  have hw2 : (Str.ofString "content-id").cps.size ≤ 1000 := by decide +kernel
  have hw3 : ∀ c ∈ (Str.ofString "content-description").cps, c < 1114000 := by decide +kernel
  have hw4 : (Str.ofString "content-description").cps.size ≤ 1000 := by decide +kernel
  have hP0 := hP
  have hK0 := hK
  obtain ⟨qd, a1, a2, a3, a4, a5, a6, a7, a8, t1, t2, t3, t4, t5, t6, t7, t8, u1, u2, u3, u6, k, bg, hp1, hp2⟩ := hP
  cases ho : opq top sub kids inner with
  | true =>
    clear hret2 hret3
    (k_dflt (refine' enter_def [Str.ofString "part"] ?k1 ?k2 ?k3 ?k4 ?k5 ?kA ?kF ?kK ?k6 ?k7 ?k8 ?k9 ?kB ?_ ?c2 ?c3 ?c4 ?c5; (case kA => exact rfl); (case kF => exact rfl); (case kK => first | exact rfl | assumption); (case k1 => k_asm); (case k2 => k_asm); (case k3 => k_asm); (case k4 => k_asm); (case k5 => k_asm); (case k6 => k_is); (case k7 => k_is); (case k8 => ktr_room); (case k9 => exact BindsTo.of_eq rfl); (case c5 => decide); (case kB => exact locs rfl); (case c2 => exact rfl); (case c3 => exact rfl); (case c4 => exact rfl); k_whole; intro g' L' h' FG' F' N' B' X' T'; (try dsimp only [List.zip_cons_cons, List.zip_nil_right, List.zipWith]); (try k_lift B'); (try k_fold)))
    k_steps
    refine' kind_values_c hP0 hK0 hk0 hmenu hin hpar hps ?k1 ?k2 ?k3 ?k4 ?k5 ?kK ?kd ?ku ?_ (fun h9 => absurd (ho.symm.trans h9) (by decide)) (fun h9 => absurd (ho.symm.trans h9) (by decide))
    case k1 => k_asm
    case k2 => k_asm
    case k3 => k_asm
    case k4 => k_asm
    case k5 => k_asm
    case kK => exact rfl
    case kd => ktr_room
    case ku => ktr_units
    intro _ D9 r1 r2 k9 h9 tk9 l9 F9 N9
    k_steps
    exact hret1 ho _ _ _ _ _ _ _ _ _ _ (And.right (And.right (by assumption))) (by k_asm) (keep2 (by assumption))
  | false =>
    clear hret1
    by_cases hsp : sp = []
    · clear hret3
      (k_dflt (refine' enter_def [Str.ofString "part"] ?k1 ?k2 ?k3 ?k4 ?k5 ?kA ?kF ?kK ?k6 ?k7 ?k8 ?k9 ?kB ?_ ?c2 ?c3 ?c4 ?c5; (case kA => exact rfl); (case kF => exact rfl); (case kK => first | exact rfl | assumption); (case k1 => k_asm); (case k2 => k_asm); (case k3 => k_asm); (case k4 => k_asm); (case k5 => k_asm); (case k6 => k_is); (case k7 => k_is); (case k8 => ktr_room); (case k9 => exact BindsTo.of_eq rfl); (case c5 => decide); (case kB => exact locs rfl); (case c2 => exact rfl); (case c3 => exact rfl); (case c4 => exact rfl); k_whole; intro g' L' h' FG' F' N' B' X' T'; (try dsimp only [List.zip_cons_cons, List.zip_nil_right, List.zipWith]); (try k_lift B'); (try k_fold)))
      k_steps
      refine' kind_values_c hP0 hK0 hk0 hmenu hin hpar hps ?k1 ?k2 ?k3 ?k4 ?k5 ?kK ?kd ?ku (fun h9 => absurd (ho.symm.trans h9) (by decide)) ?_ (fun _ h9 => absurd hsp h9)
      case k1 => k_asm
      case k2 => k_asm
      case k3 => k_asm
      case k4 => k_asm
      case k5 => k_asm
      case kK => exact rfl
      case kd => ktr_room
      case ku => ktr_units
      intro _ _ D9 r1 r2 k9 h9 tk9 l9 F9 N9
      k_steps
      exact hret2 ho hsp _ _ _ _ _ _ _ _ _ _ (And.right (And.right (by assumption))) (by k_asm) (keep2 (by assumption))
    · clear hret2
      (k_dflt (refine' enter_def [Str.ofString "part"] ?k1 ?k2 ?k3 ?k4 ?k5 ?kA ?kF ?kK ?k6 ?k7 ?k8 ?k9 ?kB ?_ ?c2 ?c3 ?c4 ?c5; (case kA => exact rfl); (case kF => exact rfl); (case kK => first | exact rfl | assumption); (case k1 => k_asm); (case k2 => k_asm); (case k3 => k_asm); (case k4 => k_asm); (case k5 => k_asm); (case k6 => k_is); (case k7 => k_is); (case k8 => ktr_room); (case k9 => exact BindsTo.of_eq rfl); (case c5 => decide); (case kB => exact locs rfl); (case c2 => exact rfl); (case c3 => exact rfl); (case c4 => exact rfl); k_whole; intro g' L' h' FG' F' N' B' X' T'; (try dsimp only [List.zip_cons_cons, List.zip_nil_right, List.zipWith]); (try k_lift B'); (try k_fold)))
      k_steps
      refine' kind_values_c hP0 hK0 hk0 hmenu hin hpar hps ?k1 ?k2 ?k3 ?k4 ?k5 ?kK ?kd ?ku (fun h9 => absurd (ho.symm.trans h9) (by decide)) (fun _ h9 => absurd h9 hsp) ?_
      case k1 => k_asm
      case k2 => k_asm
      case k3 => k_asm
      case k4 => k_asm
      case k5 => k_asm
      case kK => exact rfl
      case kd => ktr_room
      case ku => ktr_units
      intro _ _ D9 PD9 vs9 r1 r2 k9 k9' h9 tk9 ll9 l9 l9' B9 F9 N9
      k_steps
      rename _ ∧ _ ∧ _ ∧ AllLt _ news => l1
      exact hret3 ho hsp _ _ _ _ _ _ _ _ _ _ _ _ _ l1.2.2.1 l1.2.2.2 l9' B9 (by k_asm) (keep4 (by assumption))
end
end
end Mine

-- deps: Head L1 L5 L10
namespace Mine
section
variable {w : World} {p : Program} {loose : List Str} {mean : ExcName → Option Value} {mg mb : Str → Option Value} {dp un : Nat} {gd : Option (List Code)} {cn : Str} {cs : Scope} {a : Addr} {ccd : Value} {cl : List (Str × Addr)} {outer : List Env} {A₀ : Around} {base h₀ : Heap} {L : Addr} {m : Str → Option Value} {news : List (Addr × Obj)} {s : Shared} {Q E : Value → Shared → Prop}
section
local macro_rules | `(tactic| k_mem) => `(tactic| first | assumption | (refine List.Mem.tail _ ?_; first | assumption | (refine List.Mem.tail _ ?_; first | assumption | (refine List.Mem.tail _ ?_; first | assumption | (refine List.Mem.tail _ ?_; assumption)))))
theorem draw_core {tp ca : Addr} {cv : List Value} {ns : List Int} {kc k : Nat} {a₀ many : Int} {t u : Tok} (hc : (ca, listOf cv.toArray kc) ∈ news) (ap : ∀ p ∈ news, p.1 ≠ tp) (hi : IntsAre cv ns) (hn1 : 1 ≤ ns.length) (hn2 : ns.length ≤ 1000) (ha : 0 ≤ a₀) (ha2 : a₀ ≤ 1000) (hm : 1 ≤ many) (hm2 : many ≤ 1000) : Below A₀ base outer h₀ → Fr h₀ L s.heap m → (hd.heap_1 w.params).In h₀ → News h₀ L s.heap ((tp, listOf #[.ref ca, .int a₀ t] k) :: news) → Top p loose mean mg mb h₀ → cs.kind = .function → dp + 1 < recursionLimit → un + 8 < cLine →
   (∀ d t' t'' h' tk', 0 ≤ d → d < many → Fr h₀ L h' m → News h₀ L h' ((tp, listOf #[.ref ca, .int (a₀ + 1) t''] k) :: news) → Q (.int d t') { s with heap := h', toks := tk' }) →
   wpAny (model PySem.Challenge.rw_or0047_01.row.prog w) (ktrTop dp un gd cn cs L a ccd cl outer) (call (.ref 321) [.ref tp, .int many u]) Q E s := by
  k_with_none
  w_top off
  (k_with "setItem ref int" => (k_here; k_dflt (refine' set_two ?FZr ?NZr ?aZr ?_; (case FZr => k_asm); (case NZr => k_asm); (case aZr => assumption)); intro _ _ _))
  (k_with "call builtin:len" => (k_here; (with_reducible show wpAny _ _ (call (Value.builtin "len") [Value.ref _]) _ _ _); refine' len_lst ?hlZr ?hyZr ?hsZr ?_; (case hyZr => assumption); (case hlZr => exact News.isList (by k_asm) (by k_mem)); (case hsZr => assumption)))
  (k_with "subscriptTail Name BinOp ref int" => (k_here; k_dflt (refine' ksa_sub ?k1Zr ?k2Zr ?k3Zr ?k4Zr ?k5Zr ?k6Zr ?_ ?k7Zr; (case k1Zr => k_asm); (case k2Zr => k_mem); (case k3Zr => assumption); (case k4Zr => assumption); (case k5Zr => assumption); (case k6Zr => omega); (case k7Zr => with_unfolding_all rfl)); intro _))
  k_fill
  intro B F X N T hk hdp hun hret
  have hcl : cv.length = ns.length := hi.length
  have hpos : (0 : Int) < (ns.length : Nat) := by omega
  have hf1 := Int.fmod_nonneg_of_pos a₀ hpos
  have hf2 := Int.fmod_lt_of_pos a₀ hpos
  (k_dflt (refine' enter_def [Str.ofString "tape", Str.ofString "many"] ?k1 ?k2 ?k3 ?k4 ?k5 ?kA ?kF ?kK ?k6 ?k7 ?k8 ?k9 ?kB ?_ ?c2 ?c3 ?c4 ?c5; (case kA => exact rfl); (case kF => exact rfl); (case kK => first | exact rfl | assumption); (case k1 => k_asm); (case k2 => k_asm); (case k3 => k_asm); (case k4 => k_asm); (case k5 => k_asm); (case k6 => k_is); (case k7 => k_is); (case k8 => ktr_room); (case k9 => exact BindsTo.of_eq rfl); (case c5 => decide); (case kB => exact locs rfl); (case c2 => exact rfl); (case c3 => exact rfl); (case c4 => exact rfl); k_whole; intro g' L' h' FG' F' N' B' X' T'; (try dsimp only [List.zip_cons_cons, List.zip_nil_right, List.zipWith]); (try k_lift B'); (try k_fold)))
  k_steps
  exact hret _ _ _ _ _ (Int.fmod_nonneg_of_pos _ (by omega)) (Int.fmod_lt_of_pos _ (by omega)) (by k_asm) (by k_asm)
end
theorem draw_c {tp ca : Addr} {cv : List Value} {ns : List Int} {kc k : Nat} {a₀ many : Int} {t u : Tok} {news' : Tok → List (Addr × Obj)} (U : ∀ t', Upd tp (listOf #[.ref ca, .int a₀ t] k) (listOf #[.ref ca, .int (a₀ + 1) t'] k) news (news' t'))
   (hc : (ca, listOf cv.toArray kc) ∈ news) (hne : @Ne Nat ca tp) (hi : IntsAre cv ns) (hn1 : 1 ≤ ns.length) (hn2 : ns.length ≤ 1000) (ha : 0 ≤ a₀) (ha2 : a₀ ≤ 1000) (hm : 1 ≤ many) (hm2 : many ≤ 1000) : Below A₀ base outer h₀ → Fr h₀ L s.heap m → (hd.heap_1 w.params).In h₀ → News h₀ L s.heap (news) → Top p loose mean mg mb h₀ → cs.kind = .function → dp + 1 < recursionLimit → un + 8 < cLine →
   (∀ d t' t'' h' tk', 0 ≤ d → d < many → Fr h₀ L h' m → News h₀ L h' (news' t'') → Q (.int d t') { s with heap := h', toks := tk' }) →
   wpAny (model PySem.Challenge.rw_or0047_01.row.prog w) (ktrTop dp un gd cn cs L a ccd cl outer) (call (.ref 321) [.ref tp, .int many u]) Q E s := by
  intro B F X N T hk hdp hun hret
  obtain ⟨rest, ap, e1, -⟩ := Upd.core (U 0)
  have hcr : (ca, listOf cv.toArray kc) ∈ rest := by
    rcases List.mem_cons.mp ((e1 _).mpr hc) with e | e
    · exact absurd (congrArg Prod.fst e) hne
    · exact e
  refine draw_core hcr ap hi hn1 hn2 ha ha2 hm hm2 B F X (fun p hp => N p ((e1 p).mp hp)) T hk hdp hun fun d t' t'' h' tk' h0 h1 F' N' => hret d t' t'' h' tk' h0 h1 F' fun p hp => ?_
  obtain ⟨rest', ap', e1', e2'⟩ := Upd.core (U t'')
  rcases List.mem_cons.mp ((e2' p).mpr hp) with rfl | hq
  · exact N' _ (.head _)
  · rcases List.mem_cons.mp ((e1 p).mpr ((e1' p).mp (.tail _ hq))) with rfl | hr
    · exact absurd rfl (ap' _ hq)
    · exact N' _ (.tail _ hr)
end
end Mine

-- deps: L10
namespace Mine
section
open PySem.Builtin
variable {prog : Program} {w : World} {A : Around} {E : Value → Shared → Prop} {s : Shared}
theorem keys_list_none : typeLookup (.type "list") "keys" = pure none := am_miss_of_fast (by kernel_rfl)
theorem entry_dict_loop : entryFor table "dict.update.loop" = some Builtin.«dict.update.loop» := entryFor_of_tree (by kernel_rfl)
theorem plain_dict_loop : plainId "dict.update.loop" = true := by decide +kernel
/-- a list has no keys -/
theorem no_keys_list {a : Addr} {o : Obj} {xs : Array Value} {k : Nat} {Q : Option Value → Shared → Prop}
    (hx : s.heap.get? a = some o) (hc : o.cls = .type "list") (hdat : o.data = .seq xs k) (hd : o.dict = none) (hA : A.handled = none)
    (h : ∀ h' tk, (∀ b o, s.heap.get? b = some o → h'.get? b = some o) → Q none { s with heap := h', toks := tk }) :
    wpAny (model prog w) A (getAttr? (.ref a) "keys") Q E s := by
  obtain ⟨c, dct, dat, sl⟩ := o
  simp only at hc hdat hd
  subst hc hdat hd
  obtain ⟨hp, g, d, tk, os⟩ := s
  have hT : ∀ tk', (⟨hp, g, d, tk', os⟩ : Shared).TypeIs (.ref a) "list" := fun _ => ⟨_, hx, rfl⟩
  have f1 := sub_AttributeError
  have f3 := F.slot_list_getattribute.lookup
  have f4 := F.slot_list_getattribute.bind (.ref a)
  have f5 := am_list_getattr_none
  unfold getAttr? getAttrBy? getAttrBy
  repeat (any_goals (first | assumption | exact hT _ | ((with_reducible show wpAny _ _ (call (Value.builtin "list.__getattribute__") _ _) _ _ _); refine call_meets F.slot_list_getattribute (hT _) am_entry_list_getattribute (F.args_list_getattribute_2 _ _) (meets_getattribute_miss_list a xs k sl "keys" _ keys_list_none (by decide +kernel)) ⟨hx, hA, fun h' tk' e hx' => ?_⟩) | wp_step))
  obtain ⟨t', u', he⟩ := hx'.there
  show wpAny _ _ (getattributeRaised _ _ _ _ _ _ _) _ _ _
  unfold getattributeRaised
  repeat (any_goals (first | assumption | wp_step))
  exact h _ _ hx'.keeps

/-- a value is a pair of two texts that stands in a heap -/
def PairAt (h₀ : Heap) (v : Value) (p : Str × Str) : Prop := ∃ (a : Addr) (t u : Tok), v = Value.ref a ∧ IsTup h₀ a #[Value.str p.1 t, Value.str p.2 u]
theorem codeAny_dict_loop {h₀ : Heap} {I l d : Addr} {vs : List Value} {ps : List (Str × Str)} {R : Result → Shared → Prop} (hh : A.in1.handled = none) (hlI : l ≠ I) (hdI : d ≠ I) (hdl : d ≠ l) (hI₀ : h₀.get? I = none) (hd₀ : h₀.get? d = none)
    (hlen : vs.length = ps.length) (hp : ∀ (i : Nat) v, vs[i]? = some v → ∃ p, ps[i]? = some p ∧ PairAt h₀ v p) (hn : (ps.map (·.1)).Nodup) (hz : ps.length ≤ 50) :
    ∀ (k i : Nat) (s : Shared) (j : Int) (kvs : List (Str × Value)), ps.length - i = k → i ≤ ps.length → (∀ b o, h₀.get? b = some o → s.heap.get? b = some o) → s.heap.IsListIter I l i → s.heap.IsList l vs.toArray → s.heap.DictOf (PySem.strKind prog w) d kvs →
      kvs.map (·.1) = (ps.take i).map (·.1) → PyProof.V.FlatPairs PyData.str kvs ((ps.take i).map fun q => (PyData.str q.1, PyData.str q.2)) →
      (∀ h' tk kvs', (∀ b o, b ≠ I → b ≠ d → s.heap.get? b = some o → h'.get? b = some o) → h'.DictOf (PySem.strKind prog w) d kvs' → PyProof.V.FlatPairs PyData.str kvs' (ps.map fun q => (PyData.str q.1, PyData.str q.2)) → R (.ok (.ret .none)) { s with heap := h', toks := tk }) →
      codeAny (model prog w) A (.builtin "dict.update.loop" ⟨[.ref d, .ref I, rawInt j, .none], []⟩) R s := by
  have W := Walks.list (prog := prog) (w := w) hh I l hlI vs.toArray
  have hsz : vs.toArray.size = ps.length := by simp [hlen]
  intro k
  induction k with
  | zero =>
    intro i s j kvs hk hi hk₀ hit hl hd hkey hf hR
    have hin : i = ps.length := by omega
    subst hin
    refine codeAny_builtin entry_dict_loop ?_
    rw [Around.under_plainId plain_dict_loop _]
    show wpAny _ A.in1 (pyNext (.ref I) >>= _) _ _ s
    refine wpAny_bind (W.done s _ _ ⟨by rw [hsz]; exact hit, hl⟩ fun h' tk hk' => ?_)
    show wpAny _ A.in1 (Builtin.Dict.addKeywords d [] >>= _) _ _ _
    refine wpAny_bind (wpAny_pure ?_)
    rw [List.take_length] at hf
    obtain ⟨o, e, r⟩ := Heap.dictOf_iff.mp hd
    exact wpAny_pure (hR h' tk kvs (fun b o hb _ e => hk' b o (by simpa using hb) e) (Heap.dictOf_iff.mpr ⟨o, hk' d o (by simpa using hdI) e, r⟩) hf)
  | succ k ih =>
    intro i s j kvs hk hi hk₀ hit hl hd hkey hf hR
    have hlt : i < ps.length := by omega
    refine codeAny_builtin entry_dict_loop ?_
    rw [Around.under_plainId plain_dict_loop _]
    show wpAny _ A.in1 (pyNext (.ref I) >>= _) _ _ s
    refine wpAny_bind (W.item i s _ _ (by rw [hsz]; exact hlt) ⟨hit, hl⟩ fun v h' tk hP hst' hk' => ?_)
    obtain ⟨p, hpi, a, t, u, rfl, hta⟩ := hp i v (by simpa using hP)
    have hk₁ : ∀ b o, h₀.get? b = some o → h'.get? b = some o := fun b o e => hk' b o (fun hb => by
      rw [List.mem_singleton.mp hb] at e
      rw [hI₀] at e; cases e) (hk₀ b o e)
    obtain ⟨oa, hoa, hca, na, hda⟩ := hta.keeps hk₁
    obtain ⟨od, hod, rd⟩ := Heap.dictOf_iff.mp hd
    have hd' : h'.DictOf (PySem.strKind prog w) d kvs := Heap.dictOf_iff.mpr ⟨od, hk' d od (by simpa using hdI) hod, rd⟩
    show wpAny _ A.in1 (holding [Value.ref a] _ >>= _) _ _ _
    refine wpAny_bind (wpAny_holding ?_)
    refine wpAny_bind (wpAny_tryCatch ?_)
    unfold Builtin.Dict.pairItems
    refine wpAny_bind (wpAny_typeOf (T := "tuple") ⟨oa, hoa, hca⟩ ?_)
    rw [if_pos (by decide)]
    refine wpAny_bind (wpAny_seqItems hoa hda ?_)
    refine wpAny_pure ?_
    show wpAny _ A.in1 (holding [Value.str p.1 t, Value.str p.2 u] (dictSet d (Value.str p.1 t) (Value.str p.2 u))) _ _ _
    have hps : ps[i] = p := by
      have := List.getElem?_eq_some_iff.mp hpi
      exact this.2
    have htk : ps.take (i + 1) = ps.take i ++ [p] := by rw [List.take_succ_eq_append_getElem hlt, hps]
    have hnk : p.1 ∉ kvs.map (·.1) := by
      rw [hkey]
      intro hm
      have hn' : ((ps.take (i + 1)).map (·.1)).Nodup := by
        rw [List.map_take]
        exact hn.sublist (List.take_sublist _ _)
      rw [htk, List.map_append, List.nodup_append] at hn'
      exact hn'.2.2 _ hm _ (by simp) rfl
    have hst : stored kvs p.1 (.str p.2 u) = kvs ++ [(p.1, .str p.2 u)] := by
      rw [stored, if_neg]
      intro hany
      obtain ⟨kv, hkv, e⟩ := List.any_eq_true.mp hany
      exact hnk (List.mem_map.mpr ⟨kv, hkv, of_decide_eq_true e⟩)
    have hfl : ∀ {a : List (Str × Value)} {D}, PyProof.V.FlatPairs PyData.str a D → PyProof.V.FlatPairs PyData.str (a ++ [(p.1, .str p.2 u)]) (D ++ [(PyData.str p.1, PyData.str p.2)]) := by
      intro a D h
      induction h with
      | nil => exact .cons (PyProof.V.Flat.str _ _) .nil
      | cons f _ ih => exact .cons f ih
    refine wpAny_holding (wpAny_dictSet_pairs (PySem.strKind_is prog w p.1 t) hd' (fun h'' hd'' hs'' => ?_) ?hsz)
    case hsz =>
      have : kvs.length = (kvs.map (·.1)).length := by simp
      rw [this, hkey, sizeLine_eq, List.length_map, List.length_take]
      omega
    rw [hst] at hd''
    refine wpAny_pure ⟨plainId_quiet plain_dict_loop _, ih (i + 1) _ (j + 1) _ (by omega) hlt (fun b o e => ?_) ?_ ?_ hd'' ?_ ?_ fun h3 tk3 kvs3 hk3 hd3 hf3 => ?_⟩
    · refine (hs''.2 b (fun hb => ?_)).trans (hk₁ b o e)
      rw [hb, hd₀] at e; cases e
    · exact hst'.1.at fun o e => (hs''.2 I (Ne.symm hdI)).trans e
    · exact hst'.2.at fun o e => (hs''.2 l (Ne.symm hdl)).trans e
    · rw [htk, List.map_append, List.map_append, hkey]; rfl
    · rw [htk, List.map_append]; exact hfl hf
    · refine hR h3 tk3 kvs3 (fun b o hbI hbd e => hk3 b o hbI hbd ?_) hd3 hf3
      exact (hs''.2 b hbd).trans (hk' b o (by simpa using hbI) e)
/-- dict(l), of a list of pairs of texts -/
theorem dict_pairs {h₀ : Heap} {L l : Addr} {m : Str → Option Value} {news : List (Addr × Obj)} {vs : List Value} {ps : List (Str × Str)} {c : Nat} {Q : Value → Shared → Prop} (hh : A.handled = none) (Fm : Fr h₀ L s.heap m) (N : News h₀ L s.heap news) (hbig : sysModules < h₀.objs.size) (hl : (l, listOf vs.toArray c) ∈ news)
    (hlen : vs.length = ps.length) (hp : ∀ (i : Nat) v, vs[i]? = some v → ∃ p, ps[i]? = some p ∧ PairAt h₀ v p) (hn : (ps.map (·.1)).Nodup) (hz : ps.length ≤ 50)
    (h : ∀ pd po kvs h' tk, AllLt pd news → (pd == sysModules) = false → po.IsDictOf (PySem.strKind prog w) kvs → PyProof.V.FlatPairs PyData.str kvs (ps.map fun q => (PyData.str q.1, PyData.str q.2)) → Fr h₀ L h' m → News h₀ L h' ((pd, po) :: news) → Q (.ref pd) { s with heap := h', toks := tk }) :
    wpAny (model prog w) A (call (.type "dict") [.ref l]) Q E s := by
  refine callType_codes (Q₁ := fun obj s₁ => obj = .ref s.heap.objs.size ∧ s₁ = { s with heap := s.heap.push { cls := .type "dict", data := .dict #[] } }) F.kt_called_dict (F.kt_typeCall_dict_1 _) F.entry_dict_init (kt_code_dict_new _ ⟨rfl, rfl⟩) ?_
  rintro obj s₁ ⟨rfl, rfl⟩
  have hnew : (s.heap.push { cls := .type "dict", data := .dict #[] }).DictOf (PySem.strKind prog w) s.heap.objs.size [] := Heap.DictOf.new s.heap
  have hol : s.heap.get? l = some (listOf vs.toArray c) := (N _ hl).1
  have hol1 : (s.heap.push { cls := .type "dict", data := .dict #[] }).get? l = some (listOf vs.toArray c) := Heap.get?_push_of_some _ hol
  have hT : ∀ (h1 : Heap) tk, h1.get? l = some (listOf vs.toArray c) → ({ s with heap := h1, toks := tk } : Shared).TypeIs (.ref l) "list" := fun h1 tk e => ⟨_, e, rfl⟩
  refine ⟨hnew.typeIs, F.args_dict_init_2 _ _, ?_⟩
  unfold Builtin.«dict.__init__»
  refine wpAny_bind ?_
  unfold Builtin.Dict.selfAndRest
  refine wpAny_bind (wpAny_notOrdered_dict hnew.typeIs ?_)
  show wpAny _ _ (pure (s.heap.objs.size, [Value.ref l])) _ _ _
  refine wpAny_pure ?_
  show wpAny _ _ (Builtin.Dict.updateFrom "dict.__init__" s.heap.objs.size (.ref l) [] .none) _ _ _
  unfold Builtin.Dict.updateFrom
  refine wpAny_bind (wpAny_typeOf (hT _ _ hol1) ?_)
  rw [if_pos (by decide)]
  refine wpAny_bind ?_
  refine no_keys_list hol1 rfl rfl rfl hh fun h1 tk1 hk1 => ?_
  have hol2 := hk1 _ _ hol1
  show wpAny _ _ (rule _ >>= _) _ _ _
  refine wpAny_bind (wpAny_rule ?_)
  refine wpAny_bind (wpAny_pyIter_list ⟨_, hol2, rfl, c, rfl⟩ ?_)
  have hszl : s.heap.objs.size < h1.objs.size := by
    obtain ⟨o1, e1, _⟩ := Heap.dictOf_iff.mp hnew
    exact Heap.lt_size (hk1 _ _ e1)
  have hll : l < s.heap.objs.size := Heap.lt_size hol
  have hlh : l < h1.objs.size := Nat.lt_trans hll hszl
  have hI0 : h₀.get? h1.objs.size = none := by
    cases hq : h₀.get? h1.objs.size with
    | none => rfl
    | some o =>
      have := Heap.lt_size (hk1 _ _ (Heap.get?_push_of_some { cls := .type "dict", data := .dict #[] } (Fm.keep _ _ hq)))
      exact absurd this (Nat.lt_irrefl _)
  have up2 : ∀ b o, h1.get? b = some o → (h1.push { cls := .type "list_iterator", data := .fields #[.ref l, .int 0 0] }).get? b = some o := fun b o e => Heap.get?_push_of_some _ e
  refine wpAny_pure ⟨plainId_quiet plain_dict_loop _, codeAny_dict_loop (A := A.in1) (h₀ := h₀) (I := h1.objs.size) (l := l) (d := s.heap.objs.size) (vs := vs) (ps := ps) hh (Nat.ne_of_lt hlh) (Nat.ne_of_lt hszl) (Nat.ne_of_gt hll) hI0 (next_is_new Fm) hlen hp hn hz ps.length 0 _ 0 [] (by omega) (by omega) ?_ ?_ ?_ ?_ ?_ ?_ ?_⟩
  · intro b o e
    exact up2 _ _ (hk1 _ _ (Heap.get?_push_of_some _ (Fm.keep _ _ e)))
  · exact ⟨_, Heap.get?_push_size _ rfl, rfl, rfl⟩
  · exact ⟨_, up2 _ _ hol2, rfl, c, rfl⟩
  · obtain ⟨o1, e1, r1⟩ := Heap.dictOf_iff.mp hnew
    exact Heap.dictOf_iff.mpr ⟨o1, up2 _ _ (hk1 _ _ e1), r1⟩
  · rfl
  · exact .nil
  · intro h3 tk3 kvs hk3 hd3 hf3
    obtain ⟨po, e3, r3⟩ := Heap.dictOf_iff.mp hd3
    have all : ∀ b o, b ≠ s.heap.objs.size → s.heap.get? b = some o → h3.get? b = some o := fun b o hb e =>
      hk3 b o (fun q => by rw [q] at e; exact absurd (Nat.lt_trans (Heap.lt_size e) hszl) (Nat.lt_irrefl _)) hb (up2 _ _ (hk1 _ _ (Heap.get?_push_of_some _ e)))
    have all' : ∀ b o, s.heap.get? b = some o → h3.get? b = some o := fun b o e => all b o (Nat.ne_of_lt (Heap.lt_size e)) e
    refine ⟨rfl, h _ po kvs h3 tk3 (allLt_of fun p hp => Heap.lt_size (N p hp).1) (Fm.notModules hbig) r3 hf3 (Fm.keeps all') ?_⟩
    intro p hp
    rcases List.mem_cons.mp hp with rfl | hp
    · have z := (News.push Fm N { cls := .type "dict", data := .dict #[] }) _ (.head _)
      exact ⟨e3, z.2.1, z.2.2⟩
    · exact (N.grown all') _ hp
end
end Mine

-- deps: L11
namespace Mine
/-- the texts that the law turns into octets -/
def asciiMenu : List Str := [Str.ofString "text", Str.ofString "plain", Str.ofString "multipart", Str.ofString "mixed", Str.ofString "message", Str.ofString "rfc822", Str.ofString "image", Str.ofString "x-y", Str.ofString "partial", Str.ofString "a", Str.ofString "b", Str.ofString "charset", Str.ofString "name"]
def valueMenu : List Str := [Str.ofString "é", Str.ofString "x y", Str.ofString "utf-8", Str.ofString ""]
section
open PySem.Builtin
theorem gives_ascii {x : Str} (h : x ∈ asciiMenu) (t u : Tok) : Gives («str.encode» ⟨[.str x t, .str (Str.ofString "ascii") u], []⟩) (.bytes (octS x)) := by
  simp only [asciiMenu, List.mem_cons, List.mem_nil_iff, or_false] at h
  rcases h with rfl | rfl | rfl | rfl | rfl | rfl | rfl | rfl | rfl | rfl | rfl | rfl | rfl <;> exact .of_eq (by kernel_rfl)
theorem gives_utf8 {x : Str} (h : x ∈ valueMenu) (t u : Tok) : Gives («str.encode» ⟨[.str x t, .str (Str.ofString "utf-8") u], []⟩) (.bytes (byteArr (u8L x.cps.toList))) := by
  simp only [valueMenu, List.mem_cons, List.mem_nil_iff, or_false] at h
  rcases h with rfl | rfl | rfl | rfl <;> exact .of_eq (by kernel_rfl)
theorem size_ascii {x : Str} (h : x ∈ asciiMenu) : (octS x).size ≤ sizeLine := by
  simp only [asciiMenu, List.mem_cons, List.mem_nil_iff, or_false] at h
  rcases h with rfl | rfl | rfl | rfl | rfl | rfl | rfl | rfl | rfl | rfl | rfl | rfl | rfl <;> decide +kernel
theorem size_utf8 {x : Str} (h : x ∈ valueMenu) : (byteArr (u8L x.cps.toList)).size ≤ sizeLine := by
  simp only [valueMenu, List.mem_cons, List.mem_nil_iff, or_false] at h
  rcases h with rfl | rfl | rfl | rfl <;> decide +kernel
end
section
variable {prog : Program} {w : World} {A : Around} {E : Value → Shared → Prop} {s : Shared} {x : Str} {t u : Tok} {Q : Value → Shared → Prop}
theorem encode_ascii (h : x ∈ asciiMenu) (k : Q (.bytes (octS x) s.toks) { s with toks := s.toks + 1 }) : wpAny (model prog w) A (call (.builtin "str.encode") [.str x t, .str (Str.ofString "ascii") u]) Q E s :=
  call_gives F.slot_str_encode (typeIs_str s x t) F.entry_str_encode (F.args_str_encode_2 _ _) (gives_ascii h t u) ⟨size_ascii h, k⟩
theorem encode_utf8 (h : x ∈ valueMenu) (k : Q (.bytes (byteArr (u8L x.cps.toList)) s.toks) { s with toks := s.toks + 1 }) : wpAny (model prog w) A (call (.builtin "str.encode") [.str x t, .str (Str.ofString "utf-8") u]) Q E s :=
  call_gives F.slot_str_encode (typeIs_str s x t) F.entry_str_encode (F.args_str_encode_2 _ _) (gives_utf8 h t u) ⟨size_utf8 h, k⟩
end
/-- a map knows these names -/
def Has : List (Str × Value) → (Str → Option Value) → Prop
  | [], _ => True
  | p :: r, m => m p.1 = some p.2 ∧ Has r m
def look : List (Str × Value) → (Str → Option Value) → Str → Option Value
  | [], m, y => m y
  | p :: r, m, y => if y = p.1 then some p.2 else look r m y
theorem look_eq : ∀ (l : List (Str × Value)) (m : Str → Option Value), Has l m → look l m = m
  | [], _, _ => rfl
  | p :: r, m, h => by
    funext y
    show (if y = p.1 then some p.2 else look r m y) = m y
    by_cases hy : y = p.1
    · rw [if_pos hy, hy, h.1]
    · rw [if_neg hy, look_eq r m h.2]
theorem fr_look {h₀ h : Heap} {L : Addr} {m : Str → Option Value} {l : List (Str × Value)} (F : Fr h₀ L h m) (e : Has l m) : Fr h₀ L h (look l m) := by
  rw [look_eq l m e]; exact F
theorem has_skip {x : Str} {v : Option Value} : ∀ {l : List (Str × Value)} {m : Str → Option Value}, (l.all fun p => !(p.1 == x)) = true → Has l m → Has l (fun y => if y = x then v else m y)
  | [], _, _, _ => trivial
  | p :: r, m, h, e => by
    rw [List.all_cons, Bool.and_eq_true] at h
    have h1 : p.1 ≠ x := by
      intro q
      rw [q] at h
      simp at h
    exact ⟨by show (if p.1 = x then v else m p.1) = _; rw [if_neg h1]; exact e.1, has_skip h.2 e.2⟩
theorem ite_ne {y z : Str} {v r k : Option Value} (h : (y == z) = false) (e : k = r) : (if y = z then v else k) = r := by
  rw [if_neg (by intro q; rw [q] at h; simp at h)]; exact e
/-- a stop that is still to come -/
inductive Armed : Nat → Prop
  | on (n : Nat) : Armed n
theorem cut {α : Type} {M : Model} {A : Around} {t : Sem α} {Q : α → Shared → Prop} {E : Value → Shared → Prop} {s : Shared} (P : α → Shared → Prop) (h : wpAny M A t P E s) (k : ∀ v s', P v s' → Q v s') : wpAny M A t Q E s :=
  wpAny_mono h k fun _ _ e => e
end Mine

-- deps: Head L12
namespace Mine
/-- the law's parameters, in the order in which they are drawn -/
def lawParams : List (Str × Str) := [(Str.ofString "charset", Str.ofString "utf-8"), (Str.ofString "a", Str.ofString "é"), (Str.ofString "name", Str.ofString ""), (Str.ofString "b", Str.ofString "x y")]
theorem law_params {P : Params} {h₀ : Heap} : PySem.Challenge.rw_or0047_01.row.prog = PySem.Challenge.rw_or0047_01.row.prog → (hd.heap_1 P).In h₀ → ∃ its : Array Value, (∃ o, h₀.get? 314 = some o ∧ o.cls = .type "tuple" ∧ ∃ n, o.data = .seq its n) ∧ its.size = 4 ∧ ∀ (i : Nat) (v : Value), its[i]? = some v → ∃ p, lawParams[i]? = some p ∧ PairAt h₀ v p := by
  k_fill
  intro _ X
  refine ⟨_, ⟨_, X _ _ (by k_is), rfl, _, rfl⟩, rfl, ?_⟩
  intro i v hi
  rcases i with _ | _ | _ | _ | i <;> simp at hi <;> subst hi
  all_goals exact ⟨_, rfl, _, _, _, rfl, ⟨_, X _ _ (by k_is), rfl, _, rfl⟩⟩
theorem nodup_of {ps : List (Str × Str)} (h : ps.Sublist lawParams) : (ps.map (·.1)).Nodup :=
  List.Sublist.nodup (h.map _) (by decide +kernel)
def subsOf {α : Type} : List α → List (List α)
  | [] => [[]]
  | a :: l => subsOf l ++ (subsOf l).map (a :: ·)
theorem mem_subs {α : Type} : ∀ {l ps : List α}, ps.Sublist l → ps ∈ subsOf l
  | _, _, .slnil => by simp [subsOf]
  | _, _, .cons a h => List.mem_append_left _ (mem_subs h)
  | _, _, .cons_cons a h => List.mem_append_right _ (List.mem_map.mpr ⟨_, mem_subs h, rfl⟩)
def sortPs (ps : List (Str × Str)) : List (Str × Str) := menuS.filter fun p => decide (p ∈ ps)
theorem parOk_of {ps : List (Str × Str)} (h : ps.Sublist lawParams) : ParOk ps (sortPs ps) := by
  have h := mem_subs h
  simp only [subsOf, lawParams, List.map_cons, List.map_nil, List.append_nil, List.cons_append, List.nil_append, List.mem_cons, List.mem_nil_iff, or_false] at h
  rcases h with rfl | rfl | rfl | rfl | rfl | rfl | rfl | rfl | rfl | rfl | rfl | rfl | rfl | rfl | rfl | rfl
  all_goals refine ⟨by decide, by decide +kernel, by decide +kernel, ?_, fun p hp => (List.mem_filter.mp hp).1⟩
  all_goals
    intro p hp
    have hm := (List.mem_filter.mp hp).1
    have hd := (List.mem_filter.mp hp).2
    simp only [menuS, List.mem_cons, List.mem_nil_iff, or_false] at hm
    rcases hm with rfl | rfl | rfl | rfl
    all_goals first | exact absurd hd (by decide +kernel) | kernel_rfl
end Mine

-- deps: C6 C16
namespace Mine
def bSub : Array UInt8 := #[83, 117, 98, 106, 101, 99, 116]
def bId : Array UInt8 := #[67, 111, 110, 116, 101, 110, 116, 45, 73, 68]
def bDesc : Array UInt8 := #[99, 111, 110, 116, 101, 110, 116, 45, 100, 101, 115, 99, 114, 105, 112, 116, 105, 111, 110]
def bCte : Array UInt8 := #[67, 111, 110, 116, 101, 110, 116, 45, 84, 114, 97, 110, 115, 102, 101, 114, 45, 69, 110, 99, 111, 100, 105, 110, 103]
def wId : Str := lowS (Str.ofString "content-id")
def wDesc : Str := lowS (Str.ofString "content-description")
def wCte : Str := lowS (Str.ofString "content-transfer-encoding")
/-- a field as the law draws it -/
def FldOk (f : Array UInt8 × Array UInt8) : Prop := f.1 = bSub ∨ ((f.1 = bId ∨ f.1 = bDesc ∨ f.1 = bCte) ∧ RawOk f.2)
theorem fld_size {f} (h : FldOk f) : f.1.size ≤ 1000 := by
  rcases h with e | ⟨e | e | e, _⟩ <;> rw [e] <;> decide
theorem fld_raw {f wd} (h : FldOk f) (hne : wordOf bSub ≠ wd) : wordOf f.1 = wd → RawOk f.2 := by
  rcases h with e | ⟨_, r⟩
  · rw [e]; exact fun q => absurd q hne
  · exact fun _ => r
theorem sub_id : wordOf bSub ≠ wId := by decide +kernel
theorem sub_desc : wordOf bSub ≠ wDesc := by decide +kernel
theorem sub_cte : wordOf bSub ≠ wCte := by decide +kernel
theorem fbV_append (wd : Str) : ∀ (fs : List (Array UInt8 × Array UInt8)) (f), fbV wd (fs ++ [f]) = (match fbV wd fs with | some x => some x | none => if wordOf f.1 = wd then some (unfV f.2) else none)
  | [], f => by simp only [List.nil_append, fbV]
  | g :: fs, f => by
    simp only [List.cons_append, fbV]
    split
    · rfl
    · exact fbV_append wd fs f
theorem fbV_some {wd : Str} {fs f x} (h : fbV wd fs = some x) : fbV wd (fs ++ [f]) = some x := by rw [fbV_append, h]
theorem fbV_other {wd : Str} {fs f} (h : wordOf f.1 ≠ wd) : fbV wd (fs ++ [f]) = fbV wd fs := by
  rw [fbV_append]
  cases fbV wd fs with
  | some x => rfl
  | none => simp [h]
theorem fbV_new {wd : Str} {fs} {f : Array UInt8 × Array UInt8} (h : fbV wd fs = none) (e : wordOf f.1 = wd) : fbV wd (fs ++ [f]) = some (unfV f.2) := by
  rw [fbV_append, h]
  simp [e]
theorem id_id : wordOf bId = wId := by decide +kernel
theorem id_desc : wordOf bId ≠ wDesc := by decide +kernel
theorem id_cte : wordOf bId ≠ wCte := by decide +kernel
theorem desc_id : wordOf bDesc ≠ wId := by decide +kernel
theorem desc_desc : wordOf bDesc = wDesc := by decide +kernel
theorem desc_cte : wordOf bDesc ≠ wCte := by decide +kernel
theorem cte_id : wordOf bCte ≠ wId := by decide +kernel
theorem cte_desc : wordOf bCte ≠ wDesc := by decide +kernel
theorem cte_cte : wordOf bCte = wCte := by decide +kernel
/-- no field of the encoding's name -/
theorem first_iff : ∀ {fs : List (Array UInt8 × Array UInt8)}, (∀ f ∈ fs, FldOk f) → ((∀ f ∈ fs, (f.1 == bCte) = false) ↔ fbV wCte fs = none)
  | [], _ => by simp [fbV]
  | f :: fs, h => by
    have ih := first_iff fun g hg => h g (.tail _ hg)
    have hf := h f (.head _)
    rw [List.forall_mem_cons, fbV]
    rcases hf with e | ⟨e | e | e, _⟩
    · rw [e, if_neg sub_cte, ← ih]
      exact and_iff_right (by decide)
    · rw [e, if_neg id_cte, ← ih]
      exact and_iff_right (by decide)
    · rw [e, if_neg desc_cte, ← ih]
      exact and_iff_right (by decide)
    · rw [e, if_pos cte_cte]
      simp
theorem fb_id0 : fbV wId [(bSub, #[32, 115])] = none := by decide +kernel
theorem fb_desc0 : fbV wDesc [(bSub, #[32, 115])] = none := by decide +kernel
theorem fb_cte0 : fbV wCte [(bSub, #[32, 115])] = none := by decide +kernel
/-- the word of a first encoding -/
theorem word_new {b : Array UInt8} (h : RawOk b) : octS (encV (some (unfV b))) = if unfV b = #[60, 97, 64, 98, 62] then #[60, 97, 64, 98, 62] else if unfV b = #[97, 32, 98] then #[97] else if unfV b = #[] then #[55, 98, 105, 116] else #[98, 97, 115, 101, 54, 52] := by
  rcases h with rfl | rfl | rfl | rfl <;> decide +kernel
theorem word_none : octS (encV none) = #[55, 98, 105, 116] := by decide +kernel
/-- the state between two turns of the law's loop over the fields -/
def LoopSt (tp ca pd fl Lc : Addr) (cv : List Value) (kc : Nat) (oc po : Obj) (top sub : Str) (t1 t2 : Tok) (a : Int) (n : Nat) (m' : Str → Option Value) (nx : List (Addr × Obj)) : Prop :=
  Ex9 fun (vs : List Value) (k : Nat) (t : Tok) (k' : Nat) (flds : List (Addr × Obj)) (fs : List (Array UInt8 × Array UInt8)) (ti tw te : Tok) =>
    nx = (fl, listOf vs.toArray k) :: (tp, listOf #[.ref ca, .int a t] k') :: (pd, po) :: (ca, listOf cv.toArray kc) :: (Lc, oc) :: flds ∧ Fields flds vs fs ∧ vs.length = n ∧ (∀ f ∈ fs, FldOk f) ∧ (∀ p ∈ flds, p.1 ≠ fl) ∧ (∀ p ∈ flds, p.1 ≠ tp) ∧
    Has [(Str.ofString "fields", .ref fl), (Str.ofString "told_id", optB (fbV wId fs) ti), (Str.ofString "told_words", optB (fbV wDesc fs) tw), (Str.ofString "word", .bytes (octS (encV (fbV wCte fs))) te), (Str.ofString "params", .ref pd), (Str.ofString "top", .str top t1), (Str.ofString "sub", .str sub t2)] m'
section
open PyProof.V
variable {prog : Program} {w : World} {A : Around} {E : Value → Shared → Prop} {s : Shared} {h₀ : Heap} {L d : Addr} {m : Str → Option Value} {news : List (Addr × Obj)} {g : Obj → List (Addr × Obj)} {o : Obj} {Q : Value → Shared → Prop} {vs : List (Value × Value)}
theorem made_bytes {kvs : List (List UInt8 × Value)} (F : Fr h₀ L s.heap m) (N : News h₀ L s.heap news) (U : UpdF d o news g) (hd : o.IsDictOf (bytesKind prog w) []) (hc : Carries (bytesKind prog w) vs kvs) (hm : merged [] kvs = kvs)
    (h : ∀ h' o', Fr h₀ L h' m → News h₀ L h' (g o') → o'.IsDictOf (bytesKind prog w) kvs → Q (.ref d) { s with heap := h', toks := s.toks + vs.length }) : KdnMade prog w (bytesKind prog w) d Q vs s := by
  obtain ⟨pre, post, rfl, hg, a, b⟩ := U.split
  have hmm := N (d, o) (List.mem_append_right _ (.head _))
  refine ⟨kvs, hc, Heap.dictOf_iff.mpr ⟨o, hmm.1, hd⟩, fun h' hx hs => ?_⟩
  rw [hm] at hx
  obtain ⟨o', ho', hd'⟩ := Heap.dictOf_iff.mp hx
  exact h h' o' (F.change hs hmm.2.1 hmm.2.2) (hg o' ▸ N.setIn a b hs ho') hd'
theorem item_bytesTab {value slice : Expr} {b : Array UInt8} {t : Tok} {v : Value} {kvs : List (List UInt8 × Value)} (N : News h₀ L s.heap news) (hm : (d, o) ∈ news) (hd : o.IsDictOf (bytesKind prog w) kvs) (hv : valueAt kvs b.toList = some v)
    (h : Q v { s with toks := s.toks + 1 })
    (hs : subscripted slice false (.ref d) (.bytes b t) = operate [.ref d, .bytes b t] (getItem (.ref d) (.bytes b t)) := by with_unfolding_all rfl) :
    wpAny (model prog w) A (subscriptTail value slice (.ref d) (.bytes b t)) Q E s :=
  have hD := Heap.dictOf_iff.mpr ⟨o, (N _ hm).1, hd⟩
  tail_any hD.typeIs slot_dict_getitem.lookup (wpAny_getItem_of (by show (b.toList == b.toList) = true; simp) hD.mapOf hv h) hs
/-- an item of the four raw texts, at a drawn place -/
theorem raw_at {value slice : Expr} {D : Addr} {k : Int} {u a1 a2 a3 a4 : Tok} {n : Nat} (N : News h₀ L s.heap news)
    (hm : (D, ({ cls := .type "tuple", data := .seq #[.bytes #[32, 60, 97, 64, 98, 62] a1, .bytes #[32, 97, 13, 10, 32, 98] a2, .bytes #[] a3, .bytes #[32, 66, 65, 83, 69, 54, 52, 32, 40, 120, 41] a4] n } : Obj)) ∈ news) (h0 : 0 ≤ k) (h4 : k < 4)
    (h : ∀ x t, RawOk x → Q (.bytes x t) s)
    (hs : subscripted slice false (.ref D) (.int k u) = operate [.ref D, .int k u] (getItem (.ref D) (.int k u)) := by with_unfolding_all rfl) :
    wpAny (model prog w) A (subscriptTail value slice (.ref D) (.int k u)) Q E s := by
  have ht : IsTup s.heap D [Value.bytes #[32, 60, 97, 64, 98, 62] a1, .bytes #[32, 97, 13, 10, 32, 98] a2, .bytes #[] a3, .bytes #[32, 66, 65, 83, 69, 54, 52, 32, 40, 120, 41] a4].toArray := ⟨_, (N _ hm).1, rfl, n, rfl⟩
  have hk : k = 0 ∨ k = 1 ∨ k = 2 ∨ k = 3 := by omega
  rcases hk with rfl | rfl | rfl | rfl
  · exact item_tupleT ht (by decide) (by decide) (j := 0) rfl rfl (h _ _ (.inl rfl)) hs
  · exact item_tupleT ht (by decide) (by decide) (j := 1) rfl rfl (h _ _ (.inr (.inl rfl))) hs
  · exact item_tupleT ht (by decide) (by decide) (j := 2) rfl rfl (h _ _ (.inr (.inr (.inl rfl)))) hs
  · exact item_tupleT ht (by decide) (by decide) (j := 3) rfl rfl (h _ _ (.inr (.inr (.inr rfl)))) hs
end
end Mine

-- deps: C17
namespace Mine
/-- the place of a raw text among the four -/
def RawIdx (b : Array UInt8) (k : Int) : Prop := (k = 0 ∧ b = #[32, 60, 97, 64, 98, 62]) ∨ (k = 1 ∧ b = #[32, 97, 13, 10, 32, 98]) ∨ (k = 2 ∧ b = #[]) ∨ (k = 3 ∧ b = #[32, 66, 65, 83, 69, 54, 52, 32, 40, 120, 41])
section
open PySem.Builtin
variable {prog : Program} {w : World} {A : Around} {E : Value → Shared → Prop} {s : Shared} {h₀ : Heap} {L D : Addr} {news : List (Addr × Obj)} {Q : Value → Shared → Prop}
theorem meth_tuple {its : Array Value} {n : Nat} {name : Str} {id : String} {pl : Sem Bool} {Q : Value × List Value → Shared → Prop} (N : News h₀ L s.heap news) (hm : (D, ({ cls := .type "tuple", data := .seq its n } : Obj)) ∈ news) (slot : Slot "tuple" name id) (hty : typeOf (.builtin id) = pure (.type "method_descriptor"))
    (h : Q (.builtin id, [.ref D]) s) : wpAny (model prog w) A (getMethod (.ref D) name pl) Q E s :=
  getMethod_builtin ⟨_, (N _ hm).1, rfl⟩ PySem.F.plainAttrs_tuple slot hty (fun a e => by cases e; exact ⟨_, (N _ hm).1, rfl⟩) h
theorem index_raw {b : Array UInt8} {u a1 a2 a3 a4 : Tok} {n : Nat} (N : News h₀ L s.heap news)
    (hm : (D, ({ cls := .type "tuple", data := .seq #[.bytes #[32, 60, 97, 64, 98, 62] a1, .bytes #[32, 97, 13, 10, 32, 98] a2, .bytes #[] a3, .bytes #[32, 66, 65, 83, 69, 54, 52, 32, 40, 120, 41] a4] n } : Obj)) ∈ news) (hb : RawOk b)
    (h : ∀ k t' tk', RawIdx b k → Q (.int k t') { s with toks := tk' }) : wpAny (model prog w) A (call (.builtin "tuple.index") [.ref D, .bytes b u]) Q E s := by
  have ho := (N _ hm).1
  refine wpAny_call (codeAny_call_builtin PySem.F.slot_tuple_index.plain PySem.F.entry_tuple_index (PySem.F.slot_tuple_index.check _ _ _ _ _ _ _ _ ⟨_, ho, rfl⟩ (PySem.F.args_tuple_index_2 _ _) ?_))
  unfold Builtin.«tuple.index»
  refine wpAny_bind (wpAny_of_eq (a := (Value.ref D, [Value.bytes b u])) rfl ?_)
  dsimp only
  refine wpAny_bind ?_
  unfold Builtin.Tuple.tupleItemsOf
  refine wpAny_bind (wpAny_seqItems ho rfl ?_)
  refine wpAny_pure ?_
  refine wpAny_bind (wpAny_pure ?_)
  refine wpAny_bind (wpAny_pure ?_)
  refine wpAny_bind ?_
  rw [Std.Legacy.Range.forIn_eq_forIn_range']
  rw [show List.range' ([0:Min.min (#[Value.bytes #[32, 60, 97, 64, 98, 62] a1, .bytes #[32, 97, 13, 10, 32, 98] a2, .bytes #[] a3, .bytes #[32, 66, 65, 83, 69, 54, 52, 32, 40, 120, 41] a4] : Array Value).size (#[Value.bytes #[32, 60, 97, 64, 98, 62] a1, .bytes #[32, 97, 13, 10, 32, 98] a2, .bytes #[] a3, .bytes #[32, 66, 65, 83, 69, 54, 52, 32, 40, 120, 41] a4] : Array Value).size] : Std.Legacy.Range).start ([0:Min.min (#[Value.bytes #[32, 60, 97, 64, 98, 62] a1, .bytes #[32, 97, 13, 10, 32, 98] a2, .bytes #[] a3, .bytes #[32, 66, 65, 83, 69, 54, 52, 32, 40, 120, 41] a4] : Array Value).size (#[Value.bytes #[32, 60, 97, 64, 98, 62] a1, .bytes #[32, 97, 13, 10, 32, 98] a2, .bytes #[] a3, .bytes #[32, 66, 65, 83, 69, 54, 52, 32, 40, 120, 41] a4] : Array Value).size] : Std.Legacy.Range).size ([0:Min.min (#[Value.bytes #[32, 60, 97, 64, 98, 62] a1, .bytes #[32, 97, 13, 10, 32, 98] a2, .bytes #[] a3, .bytes #[32, 66, 65, 83, 69, 54, 52, 32, 40, 120, 41] a4] : Array Value).size (#[Value.bytes #[32, 60, 97, 64, 98, 62] a1, .bytes #[32, 97, 13, 10, 32, 98] a2, .bytes #[] a3, .bytes #[32, 66, 65, 83, 69, 54, 52, 32, 40, 120, 41] a4] : Array Value).size] : Std.Legacy.Range).step = [0, 1, 2, 3] from by kernel_rfl]
  rw [List.forIn_cons]
  refine wpAny_bind ?_
  refine wpAny_bind (eqBool_bytes ?_)
  rcases hb with rfl | rfl | rfl | rfl
  · rw [if_pos (by decide)]
    unfold retInt
    refine wpAny_bind (wpAny_bind (wpAny_mkInt (wpAny_pure ?_)))
    refine wpAny_pure ?_
    refine wpAny_pure ?_
    exact wpAny_pure (h _ _ _ (.inl ⟨rfl, rfl⟩))
  · rw [if_neg (by decide)]
    refine wpAny_pure ?_
    dsimp only
    rw [List.forIn_cons]
    refine wpAny_bind ?_
    refine wpAny_bind (eqBool_bytes ?_)
    rw [if_pos (by decide)]
    unfold retInt
    refine wpAny_bind (wpAny_bind (wpAny_mkInt (wpAny_pure ?_)))
    refine wpAny_pure ?_
    refine wpAny_pure ?_
    exact wpAny_pure (h _ _ _ (.inr (.inl ⟨rfl, rfl⟩)))
  · rw [if_neg (by decide)]
    refine wpAny_pure ?_
    dsimp only
    rw [List.forIn_cons]
    refine wpAny_bind ?_
    refine wpAny_bind (eqBool_bytes ?_)
    rw [if_neg (by decide)]
    refine wpAny_pure ?_
    dsimp only
    rw [List.forIn_cons]
    refine wpAny_bind ?_
    refine wpAny_bind (eqBool_bytes ?_)
    rw [if_pos (by decide)]
    unfold retInt
    refine wpAny_bind (wpAny_bind (wpAny_mkInt (wpAny_pure ?_)))
    refine wpAny_pure ?_
    refine wpAny_pure ?_
    exact wpAny_pure (h _ _ _ (.inr (.inr (.inl ⟨rfl, rfl⟩))))
  · rw [if_neg (by decide)]
    refine wpAny_pure ?_
    dsimp only
    rw [List.forIn_cons]
    refine wpAny_bind ?_
    refine wpAny_bind (eqBool_bytes ?_)
    rw [if_neg (by decide)]
    refine wpAny_pure ?_
    dsimp only
    rw [List.forIn_cons]
    refine wpAny_bind ?_
    refine wpAny_bind (eqBool_bytes ?_)
    rw [if_neg (by decide)]
    refine wpAny_pure ?_
    dsimp only
    rw [List.forIn_cons]
    refine wpAny_bind ?_
    refine wpAny_bind (eqBool_bytes ?_)
    rw [if_pos (by decide)]
    unfold retInt
    refine wpAny_bind (wpAny_bind (wpAny_mkInt (wpAny_pure ?_)))
    refine wpAny_pure ?_
    refine wpAny_pure ?_
    exact wpAny_pure (h _ _ _ (.inr (.inr (.inr ⟨rfl, rfl⟩))))
theorem bare_at {value slice : Expr} {b : Array UInt8} {k : Int} {u a1 a2 a3 a4 : Tok} {n : Nat} (N : News h₀ L s.heap news)
    (hm : (D, ({ cls := .type "tuple", data := .seq #[.bytes #[60, 97, 64, 98, 62] a1, .bytes #[97, 32, 98] a2, .bytes #[] a3, .bytes #[66, 65, 83, 69, 54, 52, 32, 40, 120, 41] a4] n } : Obj)) ∈ news) (hr : RawIdx b k)
    (h : ∀ t, Q (.bytes (unfV b) t) s)
    (hs : subscripted slice false (.ref D) (.int k u) = operate [.ref D, .int k u] (getItem (.ref D) (.int k u)) := by with_unfolding_all rfl) :
    wpAny (model prog w) A (subscriptTail value slice (.ref D) (.int k u)) Q E s := by
  have ht : IsTup s.heap D [Value.bytes #[60, 97, 64, 98, 62] a1, .bytes #[97, 32, 98] a2, .bytes #[] a3, .bytes #[66, 65, 83, 69, 54, 52, 32, 40, 120, 41] a4].toArray := ⟨_, (N _ hm).1, rfl, n, rfl⟩
  rcases hr with ⟨rfl, rfl⟩ | ⟨rfl, rfl⟩ | ⟨rfl, rfl⟩ | ⟨rfl, rfl⟩
  · exact item_tupleT ht (by decide) (by decide) (j := 0) rfl rfl (by rw [show (#[60, 97, 64, 98, 62] : Array UInt8) = unfV #[32, 60, 97, 64, 98, 62] by decide +kernel]; exact h _) hs
  · exact item_tupleT ht (by decide) (by decide) (j := 1) rfl rfl (by rw [show (#[97, 32, 98] : Array UInt8) = unfV #[32, 97, 13, 10, 32, 98] by decide +kernel]; exact h _) hs
  · exact item_tupleT ht (by decide) (by decide) (j := 2) rfl rfl (by have e : unfV #[] = #[] := by decide +kernel
                                                                      have := h a3
                                                                      rw [e] at this; exact this) hs
  · exact item_tupleT ht (by decide) (by decide) (j := 3) rfl rfl (by rw [show (#[66, 65, 83, 69, 54, 52, 32, 40, 120, 41] : Array UInt8) = unfV #[32, 66, 65, 83, 69, 54, 52, 32, 40, 120, 41] by decide +kernel]; exact h _) hs
end
theorem Fields.snoc {news : List (Addr × Obj)} {vs fs v f} (x : Fields news vs fs) (y : FieldAt news v f) : Fields news (vs ++ [v]) (fs ++ [f]) := by
  induction x with
  | nil => exact .cons y .nil
  | cons a _ ih => exact .cons a ih
/-- the loop's next state: one more field -/
theorem loop_next {tp ca pd fl Lc x d : Addr} {cv vs : List Value} {kc k k' kk n : Nat} {oc po : Obj} {top sub : Str} {t1 t2 t ti tw te kt1 kt2 nt rt : Tok} {a a' kh1 kh2 : Int} {m' : Str → Option Value} {flds : List (Addr × Obj)} {fs : List (Array UInt8 × Array UInt8)}
    (hFl : Fields flds vs fs) (hvl : vs.length = n) (hfs : ∀ f ∈ fs, FldOk f) (h1 : ∀ p ∈ flds, p.1 ≠ fl) (h2 : ∀ p ∈ flds, p.1 ≠ tp) (f : Array UInt8 × Array UInt8) (hf : FldOk f)
    (hx1 : @Ne Nat x fl) (hx2 : @Ne Nat x tp) (hd1 : @Ne Nat d fl) (hd2 : @Ne Nat d tp) (ea : a' = a)
    (hH : Has [(Str.ofString "fields", .ref fl), (Str.ofString "told_id", optB (fbV wId (fs ++ [f])) ti), (Str.ofString "told_words", optB (fbV wDesc (fs ++ [f])) tw), (Str.ofString "word", .bytes (octS (encV (fbV wCte (fs ++ [f])))) te), (Str.ofString "params", .ref pd), (Str.ofString "top", .str top t1), (Str.ofString "sub", .str sub t2)] m') :
    LoopSt tp ca pd fl Lc cv kc oc po top sub t1 t2 a' (n + 1) m' ((fl, listOf (vs ++ [Value.ref x]).toArray k) :: (tp, listOf #[.ref ca, .int a t] k') :: (pd, po) :: (ca, listOf cv.toArray kc) :: (Lc, oc) :: (x, instObj 153 d) :: (d, dictOf [⟨kh1, .str (Str.ofString "name") kt1, .bytes f.1 nt⟩, ⟨kh2, .str (Str.ofString "raw") kt2, .bytes f.2 rt⟩] kk) :: flds) := by
  subst ea
  refine ⟨vs ++ [Value.ref x], _, _, _, _, fs ++ [f], ti, tw, te, rfl, Fields.snoc (hFl.mono fun p hp => .tail _ (.tail _ hp)) ⟨x, d, _, _, _, _, _, _, _, rfl, .head _, .tail _ (.head _)⟩, by simp [hvl], ?_, ?_, ?_, hH⟩
  · intro g hg
    rcases List.mem_append.mp hg with hg | hg
    · exact hfs g hg
    · rw [List.mem_singleton.mp hg]; exact hf
  · exact List.forall_mem_cons.mpr ⟨hx1, List.forall_mem_cons.mpr ⟨hd1, h1⟩⟩
  · exact List.forall_mem_cons.mpr ⟨hx2, List.forall_mem_cons.mpr ⟨hd2, h2⟩⟩
section
open PyProof.V
variable {prog : Program} {w : World} {A : Around} {E : Value → Shared → Prop} {s : Shared} {h₀ : Heap} {L D : Addr} {news : List (Addr × Obj)} {Q : Value → Shared → Prop}
theorem word_at {value slice : Expr} {b : Array UInt8} {o : Obj} {u a1 a2 a3 a4 : Tok} (N : News h₀ L s.heap news) (hm : (D, o) ∈ news)
    (hd : o.IsDictOf (bytesKind prog w) [([60, 97, 64, 98, 62], .bytes #[60, 97, 64, 98, 62] a1), ([97, 32, 98], .bytes #[97] a2), ([], .bytes #[55, 98, 105, 116] a3), ([66, 65, 83, 69, 54, 52, 32, 40, 120, 41], .bytes #[98, 97, 115, 101, 54, 52] a4)]) (hb : RawOk b)
    (h : ∀ t, Q (.bytes (octS (encV (some (unfV b)))) t) { s with toks := s.toks + 1 })
    (hs : subscripted slice false (.ref D) (.bytes (unfV b) u) = operate [.ref D, .bytes (unfV b) u] (getItem (.ref D) (.bytes (unfV b) u)) := by with_unfolding_all rfl) :
    wpAny (model prog w) A (subscriptTail value slice (.ref D) (.bytes (unfV b) u)) Q E s := by
  have key : ∃ t, valueAt ([([60, 97, 64, 98, 62], .bytes #[60, 97, 64, 98, 62] a1), ([97, 32, 98], .bytes #[97] a2), ([], .bytes #[55, 98, 105, 116] a3), ([66, 65, 83, 69, 54, 52, 32, 40, 120, 41], .bytes #[98, 97, 115, 101, 54, 52] a4)] : List (List UInt8 × Value)) (unfV b).toList = some (.bytes (octS (encV (some (unfV b)))) t) := by
    rcases hb with rfl | rfl | rfl | rfl
    · exact ⟨a1, by kernel_rfl⟩
    · exact ⟨a2, by kernel_rfl⟩
    · exact ⟨a3, by kernel_rfl⟩
    · exact ⟨a4, by kernel_rfl⟩
  obtain ⟨t, ht⟩ := key
  exact item_bytesTab N hm hd ht (h t) hs
end
theorem beq_bytes {a b : Array UInt8} {r : Bool} (h : (a.toList == b.toList) = r) : (a == b) = r := by
  cases r with
  | true => rw [Array.toList_inj.mp (eq_of_beq h)]; simp
  | false =>
    rw [Bool.eq_false_iff]
    intro e
    rw [eq_of_beq e] at h
    simp at h
section
open PyProof.V
variable {prog : Program} {w : World} {A : Around} {E : Value → Shared → Prop} {s : Shared} {h₀ : Heap} {L d : Addr} {m : Str → Option Value} {news : List (Addr × Obj)} {g : Obj → List (Addr × Obj)} {o : Obj} {Q : Value → Shared → Prop}
theorem made_word {k1 k2 k3 k4 a1 a2 a3 a4 : Tok} (F : Fr h₀ L s.heap m) (N : News h₀ L s.heap news) (U : UpdF d o news g) (hd : o.IsDictOf (bytesKind prog w) [])
    (h : ∀ h' o', Fr h₀ L h' m → News h₀ L h' (g o') → o'.IsDictOf (bytesKind prog w) [([60, 97, 64, 98, 62], .bytes #[60, 97, 64, 98, 62] a1), ([97, 32, 98], .bytes #[97] a2), ([], .bytes #[55, 98, 105, 116] a3), ([66, 65, 83, 69, 54, 52, 32, 40, 120, 41], .bytes #[98, 97, 115, 101, 54, 52] a4)] → Q (.ref d) { s with heap := h', toks := s.toks + 4 }) :
    KdnMade prog w (bytesKind prog w) d Q [(.bytes #[60, 97, 64, 98, 62] k1, .bytes #[60, 97, 64, 98, 62] a1), (.bytes #[97, 32, 98] k2, .bytes #[97] a2), (.bytes #[] k3, .bytes #[55, 98, 105, 116] a3), (.bytes #[66, 65, 83, 69, 54, 52, 32, 40, 120, 41] k4, .bytes #[98, 97, 115, 101, 54, 52] a4)] s :=
  made_bytes (kvs := [([60, 97, 64, 98, 62], .bytes #[60, 97, 64, 98, 62] a1), ([97, 32, 98], .bytes #[97] a2), ([], .bytes #[55, 98, 105, 116] a3), ([66, 65, 83, 69, 54, 52, 32, 40, 120, 41], .bytes #[98, 97, 115, 101, 54, 52] a4)]) F N U hd ⟨rfl, rfl, rfl, rfl, rfl, rfl, rfl, rfl, trivial⟩ (by kernel_rfl) h
end
end Mine

-- deps: L12 C6
namespace Mine
section
open PySem.SeqAt PyProof.V
variable {prog : Program} {w : World} {A : Around} {E : Value → Shared → Prop} {s : Shared} {h₀ : Heap} {L : Addr} {m : Str → Option Value} {news : List (Addr × Obj)}
/-- item by item, two rows are equal -/
inductive RowEq (A : Around) (s : Shared) : List Value → List Value → Prop
  | nil : RowEq A s [] []
  | cons {v u : Value} {vs us : List Value} : EqAt A s v u true → RowEq A s vs us → RowEq A s (v :: vs) (u :: us)
theorem RowEq.length : ∀ {vs us : List Value}, RowEq A s vs us → vs.length = us.length
  | _, _, .nil => rfl
  | _, _, .cons _ r => congrArg (· + 1) r.length
theorem RowEq.at : ∀ {vs us : List Value}, RowEq A s vs us → ∀ (i : Nat) (h1 : i < vs.length) (h2 : i < us.length), EqAt A s vs[i] us[i] true
  | _, _, .nil, i, h, _ => absurd h (by simp)
  | _, _, .cons e r, 0, _, _ => e
  | _, _, .cons e r, i + 1, h1, h2 => r.at i (by simpa using h1) (by simpa using h2)
theorem eqAt_int (a : Int) (t u : Tok) : EqAt A s (.int a t) (.int a u) true := by
  have q := EqAt.int_int (A := A) (s := s) a t a u
  rw [beq_self_eq_true] at q
  exact q
theorem eqAt_opt (o : Option (Array UInt8)) (t u : Tok) : EqAt A s (optB o t) (optB o u) true := by
  cases o with
  | none => exact EqAt.same _
  | some b => exact eqAt_bytes b t u
theorem eq_rows {a b : Addr} {vs us : List Value} {k k2 : Nat} {Q : Value → Shared → Prop} (N : News h₀ L s.heap news) (ha : (a, listOf vs.toArray k) ∈ news) (hb : (b, listOf us.toArray k2) ∈ news) (hu : A.units < cLine) (hR : RowEq A.in1 s vs us)
    (h : Q (.bool true) s) : wpAny (model prog w) A (compareOp .Eq (.ref a) (.ref b)) Q E s := by
  have la : s.heap.IsList a vs.toArray := ⟨_, (N _ ha).1, rfl, k, rfl⟩
  have lb : s.heap.IsList b us.toArray := ⟨_, (N _ hb).1, rfl, k2, rfl⟩
  refine eq_listAt (e := fun _ => true) la lb (by simpa using hR.length) hu (fun j h1 h2 => ?_) ?_
  · simp only [List.getElem_toArray]
    exact hR.at j _ _
  · have e : (List.range vs.toArray.size).all (fun _ => true) = true := by simp
    rw [e]; exact h
/-- a list is (or is not) the empty list, asked the other way -/
theorem ne_nil_led {a b : Addr} {vs : List Value} {k k2 : Nat} {r : Bool} {Q : Value → Shared → Prop} (N : News h₀ L s.heap news) (ha : (a, listOf vs.toArray k) ∈ news) (hb : (b, listOf #[] k2) ∈ news) (hu : A.units < cLine) (hr : vs.isEmpty = r)
    (h : Q (.bool (!r)) s) : wpAny (model prog w) A (compareOp .NotEq (.ref a) (.ref b)) Q E s := by
  have la : s.heap.IsList a vs.toArray := ⟨_, (N _ ha).1, rfl, k, rfl⟩
  have lb : s.heap.IsList b #[] := ⟨_, (N _ hb).1, rfl, k2, rfl⟩
  cases vs with
  | nil => subst hr; exact RcNeAt.lists (e := fun _ => true) la lb rfl hu (fun j h1 _ => absurd h1 (by simp)) prog w E Q h
  | cons x r' => subst hr; exact RcNeAt.lists_lengths la lb (by simp) hu prog w E Q h
end
theorem menu_enc {p : Str × Str} (h : p ∈ menuS) : p.1 ∈ asciiMenu ∧ p.2 ∈ valueMenu := by
  simp only [menuS, List.mem_cons, List.mem_nil_iff, or_false] at h
  rcases h with rfl | rfl | rfl | rfl <;> exact ⟨by simp [asciiMenu], by simp [valueMenu]⟩
end Mine

-- deps: C14 L13 C17
namespace Mine
theorem kind_enc {top sub : Str} (h : (top, sub) ∈ kindMenu) : top ∈ asciiMenu ∧ sub ∈ asciiMenu := by
  simp only [kindMenu, List.mem_cons, List.mem_nil_iff, or_false, Prod.mk.injEq] at h
  rcases h with ⟨rfl, rfl⟩ | ⟨rfl, rfl⟩ | ⟨rfl, rfl⟩ | ⟨rfl, rfl⟩ | ⟨rfl, rfl⟩ <;> exact ⟨by simp [asciiMenu], by simp [asciiMenu]⟩
/-- what the law asks first: is the part told as opaque? -/
theorem opq_eq {top sub : Str} {kids : List Value} {inner : Value} {hw : Bool} (h : (top, sub) ∈ kindMenu) (hk : kids.isEmpty = !(hw && top == Str.ofString "multipart"))
    (hi : (inner = .none ∧ (hw && sub == Str.ofString "rfc822") = false) ∨ ∃ x, inner = .ref x ∧ (hw && sub == Str.ofString "rfc822") = true) :
    opq top sub kids inner = (!hw && (top == Str.ofString "multipart" || sub == Str.ofString "rfc822")) := by
  have hi' : (inner == .none) = !(hw && sub == Str.ofString "rfc822") := by
    rcases hi with ⟨rfl, e⟩ | ⟨x, rfl, e⟩
    · rw [e]; rfl
    · rw [e]; rfl
  unfold opq
  rw [hk, hi']
  simp only [kindMenu, List.mem_cons, List.mem_nil_iff, or_false, Prod.mk.injEq] at h
  rcases h with ⟨rfl, rfl⟩ | ⟨rfl, rfl⟩ | ⟨rfl, rfl⟩ | ⟨rfl, rfl⟩ | ⟨rfl, rfl⟩ <;> cases hw <;> decide +kernel
theorem enc_ok {fs : List (Array UInt8 × Array UInt8)} (h : ∀ f ∈ fs, FldOk f) : (∀ c ∈ (encV (fbV wCte fs)).cps, c < 256) ∧ (encV (fbV wCte fs)).cps.size ≤ 1000 := by
  rcases fbV_ok (wd := wCte) fun f hf => fld_raw (h f hf) sub_cte with e | e | e | e | e <;> rw [e] <;> exact ⟨by decide +kernel, by decide +kernel⟩
end Mine

-- deps: C6 C17
namespace Mine
section
variable {w : World} {p : Program} {loose : List Str} {mean : ExcName → Option Value} {mg mb : Str → Option Value} {dp un : Nat} {gd : Option (List Code)} {cn : Str} {cs : Scope} {a : Addr} {ccd : Value} {cl : List (Str × Addr)} {outer : List Env} {A₀ : Around} {base h₀ : Heap} {L : Addr} {m : Str → Option Value} {news : List (Addr × Obj)} {s : Shared} {Q E : Value → Shared → Prop}
/-- a kind is made; what it holds is not asked for -/
theorem kind_new_c {d : Addr} {x y : Str} {t1 t2 : Tok} : Below A₀ base outer h₀ → Fr h₀ L s.heap m → (hd.heap_1 w.params).In h₀ → News h₀ L s.heap (news) → Top p loose mean mg mb h₀ → cs.kind = .function → dp + 2 < recursionLimit → un + 16 < cLine →
   (∀ x h' tk', Fr h₀ L h' m → News h₀ L h' news → Q (.ref x) { s with heap := h', toks := tk' }) →
   wpAny (model PySem.Challenge.rw_or0047_01.row.prog w) (ktrTop dp un gd cn cs L a ccd cl outer) (call (.ref 266) [.str x t1, .str y t2, .ref d]) Q E s := by
  k_with_none
  w_top off
  k_fill
  intro B F X N T hk hdp hun hret
  (k_dflt (refine' call_cls ?m1 ?m2 ?m3 ?m4 ?m5 ?m6 ?_; (case m1 => k_asm); (case m2 => k_asm); (case m3 => k_asm); (case m4 => k_is); (case m5 => k_is); (case m6 => k_is); k_whole; intro x' d' h' F' N' l1 l2; (try k_lt l1); (try k_lt2 l2); refine' code_def ?k1 ?k2 ?k3 ?k4 ?k5 ?kA ?kF ?kK ?k6 ?k7 ?k8 ?k9 ?kB ?_ ?c2 ?c3 ?c4 ?c5; (case kA => exact rfl); (case kF => exact rfl); (case kK => first | exact rfl | assumption); (case k1 => k_asm); (case k2 => k_asm); (case k3 => k_asm); (case k4 => k_asm); (case k5 => k_asm); (case k6 => k_is); (case k7 => k_is); (case k8 => ktr_room); (case k9 => exact BindsTo.of_eq rfl); (case c5 => decide); (case kB => exact locs rfl); (case c2 => exact rfl); (case c3 => exact rfl); (case c4 => exact rfl); k_whole; intro g' L' h' FG' F' N' B' X' T'; (try dsimp only); (try k_lift B'); (try k_fold)))
  k_steps
  exact hret _ _ _ (by k_asm) (cb_drop (by assumption) (by intro p hp; repeat' (first | exact hp | apply List.Mem.tail)))
section
/-- a part is made of no fields; what it holds is not asked for -/
theorem part_new_c {fl ko : Addr} {nn : Nat} {t1 t2 t3 : Tok} (hl : (fl, listOf [].toArray nn) ∈ news) : Below A₀ base outer h₀ → Fr h₀ L s.heap m → (hd.heap_1 w.params).In h₀ → News h₀ L s.heap (news) → Top p loose mean mg mb h₀ → cs.kind = .function → dp + 8 < recursionLimit → un + 64 < cLine →
   (∀ x h' tk', Fr h₀ L h' m → News h₀ L h' news → Q (.ref x) { s with heap := h', toks := tk' }) →
   wpAny (model PySem.Challenge.rw_or0047_01.row.prog w) (ktrTop dp un gd cn cs L a ccd cl outer) (call (.ref 294) [.int 0 t1, .int 0 t2, .int 0 t3, .ref fl, .ref ko]) Q E s := by
  k_with_none
  w_top off
  (k_with "call ref" => (k_here; (with_reducible show wpAny _ _ (call (Value.ref 303) _) _ _ _); k_dflt (refine' encoding_of_c (vs := []) (fs := []) ?haZr .nil (fun _ h9 => nomatch h9) (fun _ h9 => nomatch h9) ?k1Zr ?k2Zr ?k3Zr ?k4Zr ?k5Zr ?kKZr ?kdZr ?kuZr ?_; (case k1Zr => k_asm); (case k2Zr => k_asm); (case k3Zr => k_asm); (case k4Zr => k_asm); (case k5Zr => k_asm); (case kKZr => first | exact rfl | assumption); (case kdZr => ktr_room); (case kuZr => (simp only [units_under_make, units_in1, units_deeper, Around.mark_units]; (have hcL9 := cLine_is); omega)); (case haZr => first | exact List.Mem.head _ | repeat' (first | assumption | apply List.Mem.tail))); intro _ h9 _ _ _))
  k_fill
  intro B F X N T hk hdp hun hret
  (k_dflt (refine' call_cls ?m1 ?m2 ?m3 ?m4 ?m5 ?m6 ?_; (case m1 => k_asm); (case m2 => k_asm); (case m3 => k_asm); (case m4 => k_is); (case m5 => k_is); (case m6 => k_is); k_whole; intro x' d' h' F' N' l1 l2; (try k_lt l1); (try k_lt2 l2); refine' code_def ?k1 ?k2 ?k3 ?k4 ?k5 ?kA ?kF ?kK ?k6 ?k7 ?k8 ?k9 ?kB ?_ ?c2 ?c3 ?c4 ?c5; (case kA => exact rfl); (case kF => exact rfl); (case kK => first | exact rfl | assumption); (case k1 => k_asm); (case k2 => k_asm); (case k3 => k_asm); (case k4 => k_asm); (case k5 => k_asm); (case k6 => k_is); (case k7 => k_is); (case k8 => ktr_room); (case k9 => exact BindsTo.of_eq rfl); (case c5 => decide); (case kB => exact locs rfl); (case c2 => exact rfl); (case c3 => exact rfl); (case c4 => exact rfl); k_whole; intro g' L' h' FG' F' N' B' X' T'; (try dsimp only); (try k_lift B'); (try k_fold)))
  k_steps
  exact hret _ _ _ (by k_asm) (cb_drop (by assumption) (by intro p hp; repeat' (first | exact hp | apply List.Mem.tail)))
end
end
end Mine

-- deps: C14 C15 C10 L12 C16 C18 L13 C19 C20
namespace Mine
local macro_rules | `(tactic| k_mem) => `(tactic| assumption)
local macro_rules | `(tactic| k_all) => `(tactic| first | assumption | exact List.forall_mem_nil _ | (refine' List.forall_mem_cons.mpr ⟨?a, ?b⟩; (case a => k_ne); (case b => k_all)))
set_option maxHeartbeats 60000000 in
theorem law_holds : PySem.Challenge.rw_or0047_01.Holds := hd (by
  k_with_none
  w_top off
  (k_with "call ref" => (k_here; (with_reducible show wpAny _ _ (call (Value.ref 321) _) _ _ _); k_dflt (refine' draw_c ?UZr ?hcZr ?hneZr ?hiZr ?hn1Zr ?hn2Zr ?haZr ?ha2Zr ?hmZr ?hm2Zr ?k1Zr ?k2Zr ?k3Zr ?k4Zr ?k5Zr ?kKZr ?kdZr ?kuZr ?_; (case k1Zr => k_asm); (case k2Zr => k_asm); (case k3Zr => k_asm); (case k4Zr => k_asm); (case k5Zr => k_asm); (case kKZr => first | exact rfl | assumption); (case kdZr => ktr_room); (case kuZr => ktr_units); (case UZr => intro _; k_upd); (case hcZr => k_mem); (case hneZr => omega); (case hiZr => assumption); (case hn1Zr => first | assumption | decide); (case hn2Zr => first | assumption | decide); (case haZr => omega); (case ha2Zr => omega); (case hmZr => omega); (case hm2Zr => omega); intro _ _ _ _ _ _ _ _ _)))
  (k_with "eval BoolOp" => (k_here; (rename Armed 1 => y9; clear y9); refine Hold.out ?_))
  (k_with "exec Assign" => (k_here; (with_reducible show wpAny _ _ (exec (Stmt.Assign [Expr.Tuple [Expr.Name (Str.ofString "top") _, _] _ _] _ _) _) _ _ _); (rename Armed 2 => y9; clear y9); refine Hold.out ?_))
  (k_with "eval ListComp" => (k_here; (first | (rename Armed 3 => y9; clear y9) | (rename Armed 10 => y9; clear y9)); k_dflt (refine comp_J (by k_asm) (by rfl) (by decide) (by rfl) (by decide) (by rfl) ?_)))
  (k_with "call type:dict" => (k_here; (with_reducible show wpAny _ _ (call (Value.type "dict") [Value.ref _]) _ _ _); k_dflt (refine' dict_pairs ?hhZr ?FZr ?NZr ?bigZr ?lZr ?lenZr ?pZr ?nZr ?zZr ?_; (case hhZr => rfl); (case FZr => k_asm); (case NZr => k_asm); (case bigZr => exact modules_low (Top.nolimit (by assumption))); (case lZr => k_mem); (case lenZr => assumption); (case pZr => assumption); (case nZr => assumption); (case zZr => assumption)); intro _ _ _ _ _ l9; (simp only [AllLt, and_true] at l9); (revert l9; intro _ _ _ _ _ _)))
  (k_with "exec For" => (k_here; (rename Armed 4 => y9; clear y9); (with_reducible show wpAny _ _ (exec (Stmt.For (Expr.Name _ _) _ _ _ _) _) _ _ _); with_unfolding_all (refine For_invVF (by assumption) (by rfl) (by rfl) ?_)))
  (k_with "pyIter ref" => (k_here; (with_reducible show wpAny _ _ (pyIter (Value.ref _)) (fun it s₂ => LoopAtV _ _ _ _ _ _ _ _ _ it s₂) _ _); refine Hold.out ?_))
  (k_with "call type:range" => (k_here; (with_unfolding_all refine range1_rows (by assumption) (by assumption) ?_; intro _ _ _ _ _ _ _ _ _)))
  (k_with "TurnJ" => dsimp only [TurnJ])
  (k_with "exec Assign" => (k_here; (with_reducible show wpAny _ _ (exec (Stmt.Assign [Expr.Name (Str.ofString "params") _] _ _) _) _ _ _); (rename Armed 6 => y9; clear y9); refine Hold.out ?_))
  (k_with "exec Assign" => (k_here; (with_reducible show wpAny _ _ (exec (Stmt.Assign [Expr.Tuple [Expr.Name (Str.ofString "fields") _, _, _, _] _ _] _ _) _) _ _ _); (rename Armed 5 => y9; clear y9); refine Hold.out ?_))
  (k_with "exec Assign" => (k_here; (with_reducible show wpAny _ _ (exec (Stmt.Assign [Expr.Tuple [Expr.Name (Str.ofString "way") _, _] _ _] _ _) _) _ _ _); (rename Armed 7 => y9; clear y9); refine Hold.out ?_))
  (k_with "exec Assign" => (k_here; (with_reducible show wpAny _ _ (exec (Stmt.Assign [Expr.Name (Str.ofString "bare") _] _ _) _) _ _ _); (rename Armed 8 => y9; clear y9); refine Hold.out ?_))
  (k_with "subscriptTail" => (k_here; (with_reducible show wpAny _ _ (subscriptTail (Expr.Tuple _ _ _) _ (Value.ref _) (Value.int _ _)) _ _ _); k_dflt (refine' raw_at ?NZr ?mZr ?lZr ?hZr ?_; (case NZr => k_asm); (case mZr => k_mem); (case lZr => assumption); (case hZr => assumption)); intro _ _ _))
  (k_with "subscriptTail" => (k_here; (rename RawIdx _ _ => hri9); (with_reducible show wpAny _ _ (subscriptTail (Expr.Tuple _ _ _) _ (Value.ref _) (Value.int _ _)) _ _ _); k_dflt (refine' bare_at ?NZr ?mZr hri9 ?_; (case NZr => k_asm); (case mZr => k_mem)); clear hri9; intro _))
  (k_with "getMethod ref" => (k_here; (with_reducible show wpAny _ _ (getMethod (Value.ref _) (Str.ofString "index") _) _ _ _); k_dflt (refine' meth_tuple ?NZr ?mZr PySem.F.slot_tuple_index PySem.F.type_tuple_index ?_; (case NZr => k_asm); (case mZr => k_mem))))
  (k_with "call builtin:tuple.index" => (k_here; k_dflt (refine' index_raw ?NZr ?mZr ?bZr ?_; (case NZr => k_asm); (case mZr => k_mem); (case bZr => assumption)); intro _ _ _ _))
  (k_with "exec If" => (k_here; (rename Armed 9 => y9; clear y9); refine Hold.out ?_))
  (k_with "compareOp Eq ref ref" => (k_here; k_dflt (refine' eq_nil_led ?NZr ?aZr ?bZr ?uZr ?rZr ?_; (case NZr => k_asm); (case aZr => k_mem); (case bZr => k_mem); (case uZr => ktr_units); (case rZr => assumption))))
  (k_with "eval Dict" => (k_here; k_dflt (refine' kdn_eval (knd := bytesKind _ _) ?FZr ?NZr ?bZr ?aZr ?lZr ?eZr ?nZr ?_; (case FZr => k_asm); (case NZr => k_asm); (case bZr => exact Top.nolimit (by k_asm)); (case aZr => rfl); (case lZr => rfl); (case eZr => exact List.cons_ne_nil _ _); (case nZr => exact Nat.le_of_ble_eq_true rfl)); intro _ _ _ _ _ l1 _ _; (try k_lt l1); (revert l1; intro _)))
  (k_with "KdnMade" => (k_here; (try dsimp only); k_dflt (refine' made_word ?FZr ?NZr ?UZr ?dZr ?_; (case FZr => k_asm); (case NZr => k_asm); (case UZr => k_updF); (case dZr => k_asm)); intro _ _ _ N' _; (try dsimp only at N')))
  (k_with "subscriptTail" => (k_here; (with_reducible show wpAny _ _ (subscriptTail (Expr.Dict _ _ _) _ (Value.ref _) (Value.bytes _ _)) _ _ _); k_dflt (refine' word_at ?NZr ?mZr ?dZr ?bZr ?_; (case NZr => k_asm); (case mZr => k_mem); (case dZr => assumption); (case bZr => assumption)); intro _))
  (k_with "exec Assign" => (k_here; (with_reducible show wpAny _ _ (exec (Stmt.Assign [Expr.Tuple [Expr.Name (Str.ofString "begin") _, _] _ _] _ _) _) _ _ _); (rename Armed 11 => y9; clear y9); refine Hold.out ?_))
  (k_with "exec Assign" => (k_here; (with_reducible show wpAny _ _ (exec (Stmt.Assign [Expr.Name (Str.ofString "part") _] _ _) _) _ _ _); (rename Armed 12 => y9; clear y9); refine Hold.out ?_))
  (k_with "exec If" => (k_here; (rename Armed 13 => y9; clear y9); refine Hold.out ?_))
  (k_with "exec If" => (k_here; (rename Armed 14 => y9; clear y9); refine Hold.out ?_))
  (k_with "call ref" => (k_here; (with_reducible show wpAny _ _ (call (Value.ref 266) [Value.str (Str.ofString "text") _, Value.str (Str.ofString "plain") _, _]) _ _ _); k_dflt (refine' kind_new_c ?k1Zr ?k2Zr ?k3Zr ?k4Zr ?k5Zr ?kKZr ?kdZr ?kuZr ?_; (case k1Zr => k_asm); (case k2Zr => k_asm); (case k3Zr => k_asm); (case k4Zr => k_asm); (case k5Zr => k_asm); (case kKZr => first | exact rfl | assumption); (case kdZr => ktr_room); (case kuZr => ktr_units); intro _ _ _ _ _)))
  (k_with "call ref" => (k_here; (with_reducible show wpAny _ _ (call (Value.ref 294) [Value.int 0 _, Value.int 0 _, Value.int 0 _, _, _]) _ _ _); k_dflt (refine' part_new_c ?haZr ?k1Zr ?k2Zr ?k3Zr ?k4Zr ?k5Zr ?kKZr ?kdZr ?kuZr ?_; (case k1Zr => k_asm); (case k2Zr => k_asm); (case k3Zr => k_asm); (case k4Zr => k_asm); (case k5Zr => k_asm); (case kKZr => first | exact rfl | assumption); (case kdZr => ktr_room); (case kuZr => ktr_units); (case haZr => (repeat' (first | exact List.Mem.head _ | apply List.Mem.tail))); intro _ _ _ _ _)))
  (k_with "call ref" => (k_here; (with_reducible show wpAny _ _ (call (Value.ref 303) _) _ _ _); k_dflt (refine' encoding_of_c (hr := fun f9 hf9 => fld_raw (hfs f9 hf9) sub_cte) ?haZr ?hbZr ?hcZr ?k1Zr ?k2Zr ?k3Zr ?k4Zr ?k5Zr ?kKZr ?kdZr ?kuZr ?_; (case k1Zr => k_asm); (case k2Zr => k_asm); (case k3Zr => k_asm); (case k4Zr => k_asm); (case k5Zr => k_asm); (case kKZr => first | exact rfl | assumption); (case kdZr => ktr_room); (case kuZr => (simp only [units_under_make, units_in1, units_deeper, Around.mark_units, units_caller]; decide)); (case haZr => k_mem); (case hbZr => exact Fields.mono hFl (by intro _ hp9; repeat' (first | exact hp9 | apply List.Mem.tail))); (case hcZr => exact fun f9 hf9 => fld_size (hfs f9 hf9))); intro _ _ _ _ _))
  (k_with "call builtin:sorted" => (k_here; (with_reducible show wpAny _ _ (call (Value.builtin "sorted") [Value.ref _]) _ _ _); k_dflt (refine' sorted_tab ?hhZr ?FZr ?NZr ?TZr ?hnZr ?_; (case hhZr => rfl); (case FZr => k_asm); (case NZr => k_asm); (case TZr => exact tab_led (by k_asm) (by repeat' (first | assumption | exact List.Mem.head _ | apply List.Mem.tail)) (by assumption) (by assumption) (by assumption)); (case hnZr => exact Nat.le_trans (ParOk.len (by assumption)) (by decide))); intro _ _ _ _ _ _ _ _ l9; (simp only [AllLt, and_true] at l9); (revert l9; intro _ _ _ _)))
  (k_with "subscriptTail Name Name ref str" => (k_here; k_dflt (refine' item_strTab ?TZr ?lZr (fun v9 hv9 => ?_) ?x1Zr ?x2Zr; (case TZr => exact tab_led (by k_asm) (by repeat' (first | assumption | exact List.Mem.head _ | apply List.Mem.tail)) (by assumption) (by assumption) (by assumption)); (case lZr => assumption); (case x1Zr => with_unfolding_all rfl); (case x2Zr => intro _; with_unfolding_all rfl)); (obtain ⟨u9, hu9⟩ := PyProof.V.Flat.str_inv hv9); subst hu9))
  (k_with "call builtin:str.encode" => (k_here; first | refine encode_ascii (by assumption) ?_ | refine encode_utf8 (by assumption) ?_))
  (k_with "call builtin:list.extend" => (k_here; (with_reducible show wpAny _ _ (call (Value.builtin _) [Value.ref _, Value.ref _]) _ _ _); k_dflt (refine' ext_led ?FZr ?NZr ?bZr ?UZr ?neZr ?zZr ?yZr ?_; (case FZr => k_asm); (case NZr => k_asm); (case bZr => exact List.Mem.head _); (case UZr => k_upd); (case neZr => exact Nat.succ_ne_zero _); (case zZr => assumption); (case yZr => exact Nat.le_of_ble_eq_true rfl)); intro _ _ _))
  (k_with "exec Assign" => (k_here; (with_reducible show wpAny _ _ (exec (Stmt.Assign [Expr.Name (Str.ofString "first") _] _ _) _) _ _ _); (rename Armed 15 => y9; clear y9); refine Hold.out ?_))
  (k_with "compareOp NotEq ref ref" => (k_here; k_dflt (refine' ne_nil_led ?NZr ?aZr ?bZr ?uZr ?rZr ?_; (case NZr => k_asm); (case aZr => repeat' (first | assumption | exact List.Mem.head _ | apply List.Mem.tail)); (case bZr => exact List.Mem.head _); (case uZr => ktr_units); (case rZr => assumption))))
  (k_with "getMethod str" => (k_here; (with_reducible show wpAny _ _ (getMethod (Value.str _ _) (Str.ofString "encode") _) _ _ _); refine getMethod_builtin (typeIs_str _ _ _) PySem.F.plainAttrs_str PySem.F.slot_str_encode PySem.F.type_str_encode (fun _ e => nomatch e) ?_))
  (k_with "call ref" => (k_here; (with_reducible show wpAny _ _ (call (Value.ref 221) _) _ _ _); (rename Armed 15 => y9; clear y9); refine Hold.out ?_))
  (k_with "compareOp Eq ref ref" => (k_here; (rename Armed 16 => y9; clear y9); refine Hold.out ?_))
  k_go0
  k_fold
  have arm1 := Armed.on 1
  have arm2 := Armed.on 2
  have arm3 := Armed.on 3
  have arm4 := Armed.on 4
  have arm5 := Armed.on 5
  have arm6 := Armed.on 6
  have arm7 := Armed.on 7
  have arm8 := Armed.on 8
  have arm9 := Armed.on 9
  have arm10 := Armed.on 10
  k_steps
  refine Hold.of ?_
  rename Fr _ _ _ _ => F0
  rename News _ _ _ _ => N0
  rename IntsAre _ _ => hI0
  rename ¬ _ < ((List.length _ : Nat) : Int) => hlen
  rename CellsAre _ _ _ => hY0; clear hY0
  rename Ground _ _ _ _ _ _ _ _ _ => y; clear y
  rename Hook.says _ _ _ => y; clear y
  rename Flt.MathXP _ _ _ => y; clear y
  rename LooseAre _ _ _ => y; clear y
  rename Glob _ _ _ _ _ _ _ _ => y; clear y
  rename Tables _ _ _ _ => y; clear y
  rename TopE _ _ _ _ => y; clear y
  rename TopW _ _ _ => y; clear y
  rename BMod _ _ _ _ _ => y; clear y
  rename Heap.CodeRec _ _ _ => y; clear y
  rename Dflts _ _ _ _ _ _ => y; clear y
  rename Well _ _ _ _ => y; clear y
  rename Reads _ _ _ _ => y; clear y
  rename ReadsAll _ _ _ _ => y; clear y
  rename ReadsAllW _ _ _ _ _ _ => y; clear y
  rename Below _ _ _ _ => K0
  rename Top _ _ _ _ _ _ => T0
  rename Shared => s1
  rename World => w
  refine cut (fun v s' => Hold (Ex8 fun (ca : Addr) (cv : List Value) (kc : Nat) (ns : List Int) (o : Obj) (h' : Heap) (tk' : Tok) (m' : Str → Option Value) => v = .ref ca ∧ s' = { s1 with heap := h', toks := tk' } ∧ Fr s1.heap s1.heap.objs.size h' m' ∧ News s1.heap s1.heap.objs.size h' [(ca, listOf cv.toArray kc), (s1.heap.objs.size + 1, o)] ∧ (∃ x, o.data = .cell x) ∧ IntsAre cv ns ∧ 1 ≤ ns.length ∧ ns.length ≤ 1000 ∧ @LT.lt Nat _ (s1.heap.objs.size + 1) ca)) ?_ ?_
  · k_steps
    all_goals rename IntsAre _ (List.take _ _) => hI9
    · exact Hold.of ⟨_, _, _, _, _, _, _, _, rfl, rfl, by k_asm, (cb_drop (by k_asm) (by repeat' (first | exact List.forall_mem_nil _ | refine List.forall_mem_cons.mpr ⟨?_, ?_⟩ | assumption | exact List.Mem.head _ | apply List.Mem.tail | (intro p9 hp9; (repeat' (first | exact hp9 | apply List.Mem.tail)); done)))), ⟨_, by assumption⟩, hI9, by omega, by omega, by omega⟩
    · exact Hold.of ⟨_, [_], _, [3], _, _, _, _, rfl, rfl, by k_asm, (cb_drop (by k_asm) (by repeat' (first | exact List.forall_mem_nil _ | refine List.forall_mem_cons.mpr ⟨?_, ?_⟩ | assumption | exact List.Mem.head _ | apply List.Mem.tail | (intro p9 hp9; (repeat' (first | exact hp9 | apply List.Mem.tail)); done)))), ⟨_, by assumption⟩, .cons _ _ .nil, by decide, by decide, by omega⟩
  rintro v s' hP
  obtain ⟨ca, cv, kc, ns, oc, h', tk', m', rfl, rfl, F1, N1, ⟨xc, hxc⟩, hI1, hn1, hn2, hlt⟩ := Hold.out hP
  clear hP F0 N0
  clear hI0 hlen
  k_steps
  rename News _ _ _ _ => N2
  rename Fr _ _ _ _ => F2
  rename Obj => oc2
  rename _ = Data.cell (some _) => hoc2
  rename_i tp _ l1 _
  refine Hold.of ?_
  refine cut (fun fl s' => Hold (Ex9 fun (top sub : Str) (t1 t2 t3 : Tok) (k : Nat) (h' : Heap) (tk' : Tok) (m' : Str → Option Value) => fl = .next ∧ s' = { s1 with heap := h', toks := tk' } ∧ (top, sub) ∈ kindMenu ∧ Fr s1.heap s1.heap.objs.size h' m' ∧ News s1.heap s1.heap.objs.size h' [(tp, listOf #[.ref ca, .int 1 t3] k), (ca, listOf cv.toArray kc), (s1.heap.objs.size + 1, oc2)] ∧ Has [(Str.ofString "top", .str top t1), (Str.ofString "sub", .str sub t2)] m')) ?_ ?_
  · k_steps
    all_goals (refine Hold.of ⟨_, _, _, _, _, _, _, _, _, by first | trivial | rfl, rfl, ?_, by k_asm, by k_asm, (by dsimp only [Has]; repeat' (first | exact trivial | refine And.intro ?_ ?_ | refine ite_ne (by decide +kernel) ?_ | exact if_pos rfl | rfl | assumption))⟩; decide +kernel)
  rintro v s' hP
  obtain ⟨top, sub, t1, t2, t3, k2, h', tk', m', rfl, rfl, hmenu, F3, N3, hHas⟩ := Hold.out hP
  clear hP F2 N2
  k_steps
  refine Hold.of ?_
  refine cut (fun fl s' => Hold (Ex10 fun (pd : Addr) (po : Obj) (kvs : List (Str × Value)) (ps sp : List (Str × Str)) (t3 : Tok) (k : Nat) (h' : Heap) (tk' : Tok) (m' : Str → Option Value) => fl = .next ∧ s' = { s1 with heap := h', toks := tk' } ∧ (pd == sysModules) = false ∧ po.IsDictOf (PySem.strKind PySem.Challenge.rw_or0047_01.row.prog w) kvs ∧ PyProof.V.FlatPairs PyData.str kvs (ps.map fun q => (PyData.str q.1, PyData.str q.2)) ∧ ParOk ps sp ∧ Fr s1.heap s1.heap.objs.size h' m' ∧ News s1.heap s1.heap.objs.size h' [(pd, po), (tp, listOf #[.ref ca, .int 5 t3] k), (ca, listOf cv.toArray kc), (s1.heap.objs.size + 1, oc2)] ∧ @LT.lt Nat _ tp pd ∧ @LT.lt Nat _ ca pd ∧ @LT.lt Nat _ (s1.heap.objs.size + 1) pd ∧ Has [(Str.ofString "params", .ref pd), (Str.ofString "top", .str top t1), (Str.ofString "sub", .str sub t2)] m')) ?_ ?_
  · have hF3 := fr_look F3 hHas
    dsimp only [look] at hF3
    clear F3
    rename Fr _ _ _ _ => F3
    k_steps
    rename Frag.In _ _ => KX
    obtain ⟨its, hI3, hsz3, hit3⟩ := law_params rfl KX
    refine Hold.of ⟨314, its, "tuple", _, fun i ys nw => ∃ (ps : List (Str × Str)) (t : Tok) (k : Nat), ps.Sublist (lawParams.take i) ∧ ys.length = ps.length ∧ (∀ (j : Nat) v, ys[j]? = some v → ∃ p, ps[j]? = some p ∧ PairAt s1.heap v p) ∧ nw = [(tp, listOf #[.ref ca, .int (1 + (i : Nat)) t] k), (ca, listOf cv.toArray kc), (s1.heap.objs.size + 1, oc2)], rfl, .inr rfl, rfl, F3, N3, .inl hI3, by rw [hsz3]; decide, ⟨[], t3, k2, List.nil_sublist _, rfl, by simp, rfl⟩, fun _ _ _ _ => .inl hI3, ?_, ?_⟩
    · rintro i v I oI C oC D m₂ ys nw h tk E' hv ⟨ps, t, k, hsub, hyl, hys, rfl⟩ hC hx' F' N' off ne
      obtain ⟨p, hp, hpa⟩ := hit3 i v hv
      simp only [LCg.Off3] at off
      have o1 : @Ne Nat tp I := off.1.1
      have o2 : @Ne Nat tp C := off.1.2.1
      have o3 : @Ne Nat tp D := off.1.2.2
      have hi : i < 4 := by rw [← hsz3]; exact (Array.getElem?_eq_some_iff.mp hv).1
      k_steps
      all_goals
        have e9 : (1 + ((i + 1 : Nat) : Int)) = 1 + (i : Nat) + 1 := by omega
      · refine Hold.of ⟨_, _, _, rfl, by k_asm, by k_asm, by exact off, ps ++ [p], _, _, ?_, ?_, ?_, by rw [e9]⟩
        · rw [List.take_add_one, hp]
          exact hsub.append (List.Sublist.refl _)
        · simp [hyl]
        · intro j v' hj
          rcases Nat.lt_trichotomy j ys.length with hl | hl | hl
          · rw [List.getElem?_append_left hl] at hj
            obtain ⟨q, hq, hqa⟩ := hys j v' hj
            exact ⟨q, by rw [List.getElem?_append_left (by omega)]; exact hq, hqa⟩
          · rw [hl] at hj ⊢
            simp at hj
            subst hj
            exact ⟨p, by rw [hyl]; simp, hpa⟩
          · rw [List.getElem?_eq_none (by simp; omega)] at hj
            cases hj
      · exact Hold.of ⟨_, _, _, rfl, by k_asm, by k_asm, by exact off, ps, _, _, hsub.trans (List.take_sublist_take_left (by omega)), hyl, hys, by rw [e9]⟩
    · rintro D ys nw h tk ⟨ps, t, k, hsub, hyl, hys, rfl⟩ F' N' off
      rw [hsz3] at hsub N'
      have hsub : ps.Sublist lawParams := hsub
      have hps1 := nodup_of hsub
      have hps2 : ps.length ≤ 50 := Nat.le_trans hsub.length_le (by decide)
      have hps := parOk_of hsub
      generalize sortPs ps = sp at hps
      simp only [LCg.Off1] at off
      have N' : News s1.heap s1.heap.objs.size h [(D, listOf ys.toArray ys.length), (tp, listOf #[.ref ca, .int 5 t] k), (ca, listOf cv.toArray kc), (s1.heap.objs.size + 1, oc2)] := N'
      clear hit3 hI3 hsz3 N3 F3
      k_steps
      rename _ ∧ _ ∧ _ ∧ _ => l9
      exact Hold.of ⟨_, _, _, ps, sp, _, _, _, _, _, by first | trivial | rfl, rfl, by assumption, by assumption, by assumption, hps, by k_asm, (cb_drop (by k_asm) (by repeat' (first | exact List.forall_mem_nil _ | refine List.forall_mem_cons.mpr ⟨?_, ?_⟩ | assumption | exact List.Mem.head _ | apply List.Mem.tail | (intro p9 hp9; (repeat' (first | exact hp9 | apply List.Mem.tail)); done)))), by omega, by omega, by omega, (by dsimp only [Has]; repeat' (first | exact trivial | refine And.intro ?_ ?_ | refine ite_ne (by decide +kernel) ?_ | exact if_pos rfl | rfl | assumption))⟩
  rintro v s' hP
  obtain ⟨pd, po, kvs, ps, sp, t3, k2, h', tk', m', rfl, rfl, hpd, hpo, hkvs, hps, F4, N4, lp1, lp2, lp3, hHas⟩ := Hold.out hP
  clear hP F3 N3
  have hF4 := fr_look F4 hHas
  dsimp only [look] at hF4
  clear F4
  k_steps
  refine Hold.of ?_
  refine cut (fun fl s' => Hold (Ex5 fun (fa : Addr) (nx : List (Addr × Obj)) (h' : Heap) (tk' : Tok) (m' : Str → Option Value) => fl = .next ∧ s' = { s1 with heap := h', toks := tk' } ∧ Fr s1.heap s1.heap.objs.size h' m' ∧ News s1.heap s1.heap.objs.size h' nx ∧ @LT.lt Nat _ pd fa ∧ LoopSt tp ca pd fa (s1.heap.objs.size + 1) cv kc oc2 po top sub t1 t2 5 1 m' nx)) ?_ ?_
  · k_steps
    rename_i x d _ _ _ lA lB _ _ _ _ _ _ _ _ _ _ _ _ fl _ lC _ _ _ _ _ _ _ _ F5 N5
    refine Hold.of ⟨fl, (fl, _) :: (tp, _) :: (pd, po) :: (ca, _) :: (_, oc2) :: [(x, instObj 153 d), (d, _)], _, _, _, by first | trivial | rfl, rfl, F5, (cb_drop (by k_asm) (by repeat' (first | exact List.forall_mem_nil _ | refine List.forall_mem_cons.mpr ⟨?_, ?_⟩ | assumption | exact List.Mem.head _ | apply List.Mem.tail | (intro p9 hp9; (repeat' (first | exact hp9 | apply List.Mem.tail)); done)))), by omega, [.ref x], _, _, _, [(x, _), (d, _)], [(bSub, #[32, 115])], 0, 0, _, rfl, .cons ⟨x, d, _, _, _, _, _, _, _, rfl, .head _, .tail _ (.head _)⟩ .nil, rfl, ?_, ?_, ?_, by rw [fb_id0, fb_desc0, fb_cte0, word_none]; exact (by dsimp only [Has]; repeat' (first | exact trivial | refine And.intro ?_ ?_ | refine ite_ne (by decide +kernel) ?_ | exact if_pos rfl | rfl | assumption))⟩
    · intro f hf
      rw [List.mem_singleton.mp hf]
      exact .inl rfl
    · k_all
    · k_all
  rintro v s' hP
  obtain ⟨fa, nx, h', tk', m', rfl, rfl, F5, N5, lf, vs, kf, tt, kt, flds, fs, ti, tw, te, rfl, hFl, hvl, hfs, hof1, hof2, hHas⟩ := Hold.out hP
  clear hP hF4 N4
  k_steps
  rename IsRange _ _ _ _ _ _ _ _ => hr
  rename News _ _ _ _ => N6
  rename Fr _ _ _ _ => F6
  rename_i dn _ _ _ _ lo hi _ _ _ _ _ _ _ _
  obtain ⟨n9, rfl⟩ : ∃ n : Nat, dn = (n : Int) := ⟨dn.toNat, (Int.toNat_of_nonneg lo).symm⟩
  refine Hold.of ?_
  refine for_rangeJ (n := n9) (J := fun i m nx => LoopSt tp ca pd fa (s1.heap.objs.size + 1) cv kc oc2 po top sub t1 t2 (6 + 2 * (i : Int)) (i + 1) m nx) rfl hr (small_one (by omega) (by omega) (by omega) (by omega)) (rangeSize_nat _ _) F6 N6 ⟨vs, kf, _, kt, flds, fs, ti, tw, te, rfl, hFl, hvl, hfs, hof1, hof2, hHas⟩ ?_ ?_
  · clear hr F6 N6 hFl hvl hfs hof1 hof2 hHas N5 hkvs hpo hps
    rintro i _ m₁ nx I oI h tk hin ⟨vs, kf, tt, kt, flds, fs, ti, tw, te, rfl, hFl, hvl, hfs, hof1, hof2, hHas⟩ hoff F7 N7
    have hI1 : @Ne Nat fa I := hoff _ (.head _)
    have hI2 : @Ne Nat tp I := hoff _ (.tail _ (.head _))
    have hI4 : @Ne Nat pd I := hoff _ (.tail _ (.tail _ (.head _)))
    have hI5 : @Ne Nat ca I := hoff _ (.tail _ (.tail _ (.tail _ (.head _))))
    have hI6 : @Ne Nat (s1.heap.objs.size + 1) I := hoff _ (.tail _ (.tail _ (.tail _ (.tail _ (.head _)))))
    have hI3 : ∀ p ∈ flds, p.1 ≠ I := fun p hp => hoff p (.tail _ (.tail _ (.tail _ (.tail _ (.tail _ hp)))))
    have N7 : News s1.heap s1.heap.objs.size h _ := N7
    have F8 : Fr s1.heap s1.heap.objs.size h _ := fr_look F7 (has_skip (by kernel_rfl) hHas)
    dsimp only [look] at F8
    clear F7
    k_steps
    refine Hold.of ?_
    refine cut (fun fl s' => Hold (Ex8 fun (dw : Int) (b : Array UInt8) (ta tb t3 : Tok) (h' : Heap) (tk' : Tok) (m' : Str → Option Value) => fl = .next ∧ s' = { s1 with heap := h', toks := tk' } ∧ 0 ≤ dw ∧ dw < 3 ∧ RawOk b ∧ Fr s1.heap s1.heap.objs.size h' m' ∧ News s1.heap s1.heap.objs.size h' ((I, oI) :: (fa, listOf vs.toArray kf) :: (tp, listOf #[.ref ca, .int (6 + 2 * (i : Int) + 1 + 1) t3] kt) :: (pd, po) :: (ca, listOf cv.toArray kc) :: (s1.heap.objs.size + 1, oc2) :: flds) ∧
      Has [(Str.ofString "way", .int dw ta), (Str.ofString "text", .bytes b tb), (Str.ofString "fields", .ref fa), (Str.ofString "told_id", optB (fbV wId fs) ti), (Str.ofString "told_words", optB (fbV wDesc fs) tw), (Str.ofString "word", .bytes (octS (encV (fbV wCte fs))) te), (Str.ofString "params", .ref pd), (Str.ofString "top", .str top t1), (Str.ofString "sub", .str sub t2)] m')) ?_ ?_
    · k_steps
      refine Hold.of ⟨_, _, _, _, _, _, _, _, by first | trivial | rfl, rfl, ?_, ?_, by assumption, by k_asm, (cb_drop (by k_asm) (by repeat' (first | exact List.forall_mem_nil _ | refine List.forall_mem_cons.mpr ⟨?_, ?_⟩ | assumption | exact List.Mem.head _ | apply List.Mem.tail | (intro p9 hp9; (repeat' (first | exact hp9 | apply List.Mem.tail)); done)))), (by dsimp only [Has]; repeat' (first | exact trivial | refine And.intro ?_ ?_ | refine ite_ne (by decide +kernel) ?_ | exact if_pos rfl | rfl | assumption))⟩ <;> assumption
    rintro v s' hP
    obtain ⟨dw, b, ta, tb, t3, h', tk', m', rfl, rfl, hd1, hd2, hraw, F9, N9, hHas⟩ := Hold.out hP
    clear hP F8 N7
    have F8 := fr_look F9 hHas
    dsimp only [look] at F8
    clear F9
    k_steps
    refine Hold.of ?_
    refine cut (fun fl s' => Hold (Ex4 fun (tc : Tok) (h' : Heap) (tk' : Tok) (m' : Str → Option Value) => fl = .next ∧ s' = { s1 with heap := h', toks := tk' } ∧ Fr s1.heap s1.heap.objs.size h' m' ∧ News s1.heap s1.heap.objs.size h' ((I, oI) :: (fa, listOf vs.toArray kf) :: (tp, listOf #[.ref ca, .int (6 + 2 * (i : Int) + 1 + 1) t3] kt) :: (pd, po) :: (ca, listOf cv.toArray kc) :: (s1.heap.objs.size + 1, oc2) :: flds) ∧
      Has [(Str.ofString "bare", .bytes (unfV b) tc), (Str.ofString "way", .int dw ta), (Str.ofString "text", .bytes b tb), (Str.ofString "fields", .ref fa), (Str.ofString "told_id", optB (fbV wId fs) ti), (Str.ofString "told_words", optB (fbV wDesc fs) tw), (Str.ofString "word", .bytes (octS (encV (fbV wCte fs))) te), (Str.ofString "params", .ref pd), (Str.ofString "top", .str top t1), (Str.ofString "sub", .str sub t2)] m')) ?_ ?_
    · k_steps
      exact Hold.of ⟨_, _, _, _, by first | trivial | rfl, rfl, by k_asm, (cb_drop (by k_asm) (by repeat' (first | exact List.forall_mem_nil _ | refine List.forall_mem_cons.mpr ⟨?_, ?_⟩ | assumption | exact List.Mem.head _ | apply List.Mem.tail | (intro p9 hp9; (repeat' (first | exact hp9 | apply List.Mem.tail)); done)))), (by dsimp only [Has]; repeat' (first | exact trivial | refine And.intro ?_ ?_ | refine ite_ne (by decide +kernel) ?_ | exact if_pos rfl | rfl | assumption))⟩
    rintro v s' hP
    obtain ⟨tc, h', tk', m', rfl, rfl, F9, N9, hHas⟩ := Hold.out hP
    clear hP F8
    have F8 := fr_look F9 hHas
    dsimp only [look] at F8
    clear F9
    k_steps
    refine Hold.of ?_
    have hvz : vs.length ≤ 5000 := by omega
    have hdw : dw = 0 ∨ dw = 1 ∨ dw = 2 := by omega
    rcases hdw with rfl | rfl | rfl
    · have e2 : fbV wDesc (fs ++ [(bId, b)]) = fbV wDesc fs := fbV_other id_desc
      have e3 : fbV wCte (fs ++ [(bId, b)]) = fbV wCte fs := fbV_other id_cte
      cases hq : fbV wId fs with
      | none =>
        have e1 : fbV wId (fs ++ [(bId, b)]) = some (unfV b) := fbV_new hq id_id
        rw [hq] at F8
        dsimp only [optB] at F8
        k_steps
        (rename_i x d _ _ _ lA lB _ _ _ _ _ _ _ _ _ _ _ _ _ _ F10 N10; simp only [List.push_toArray] at N10; exact Hold.of ⟨_, _, _, _, rfl, F10, (cb_drop (by k_asm) (by repeat' (first | exact List.forall_mem_nil _ | refine List.forall_mem_cons.mpr ⟨?_, ?_⟩ | assumption | exact List.Mem.head _ | apply List.Mem.tail | (intro p9 hp9; (repeat' (first | exact hp9 | apply List.Mem.tail)); done)))), by k_all, loop_next hFl hvl hfs hof1 hof2 (bId, b) (.inr ⟨.inl rfl, hraw⟩) (by k_ne) (by k_ne) (by k_ne) (by k_ne) (by omega) (by rw [e1, e2, e3]; exact (by dsimp only [Has]; repeat' (first | exact trivial | refine And.intro ?_ ?_ | refine ite_ne (by decide +kernel) ?_ | exact if_pos rfl | rfl | assumption)))⟩)
      | some x =>
        have e1 : fbV wId (fs ++ [(bId, b)]) = some x := fbV_some hq
        rw [hq] at F8
        dsimp only [optB] at F8
        k_steps
        (rename_i x d _ _ _ lA lB _ _ _ _ _ _ _ _ _ _ _ _ _ _ F10 N10; simp only [List.push_toArray] at N10; exact Hold.of ⟨_, _, _, _, rfl, F10, (cb_drop (by k_asm) (by repeat' (first | exact List.forall_mem_nil _ | refine List.forall_mem_cons.mpr ⟨?_, ?_⟩ | assumption | exact List.Mem.head _ | apply List.Mem.tail | (intro p9 hp9; (repeat' (first | exact hp9 | apply List.Mem.tail)); done)))), by k_all, loop_next hFl hvl hfs hof1 hof2 (bId, b) (.inr ⟨.inl rfl, hraw⟩) (by k_ne) (by k_ne) (by k_ne) (by k_ne) (by omega) (by rw [e1, e2, e3]; exact (by dsimp only [Has]; repeat' (first | exact trivial | refine And.intro ?_ ?_ | refine ite_ne (by decide +kernel) ?_ | exact if_pos rfl | rfl | assumption)))⟩)
    · have e1 : fbV wId (fs ++ [(bDesc, b)]) = fbV wId fs := fbV_other desc_id
      have e3 : fbV wCte (fs ++ [(bDesc, b)]) = fbV wCte fs := fbV_other desc_cte
      cases hq : fbV wDesc fs with
      | none =>
        have e2 : fbV wDesc (fs ++ [(bDesc, b)]) = some (unfV b) := fbV_new hq desc_desc
        rw [hq] at F8
        dsimp only [optB] at F8
        k_steps
        (rename_i x d _ _ _ lA lB _ _ _ _ _ _ _ _ _ _ _ _ _ _ F10 N10; simp only [List.push_toArray] at N10; exact Hold.of ⟨_, _, _, _, rfl, F10, (cb_drop (by k_asm) (by repeat' (first | exact List.forall_mem_nil _ | refine List.forall_mem_cons.mpr ⟨?_, ?_⟩ | assumption | exact List.Mem.head _ | apply List.Mem.tail | (intro p9 hp9; (repeat' (first | exact hp9 | apply List.Mem.tail)); done)))), by k_all, loop_next hFl hvl hfs hof1 hof2 (bDesc, b) (.inr ⟨.inr (.inl rfl), hraw⟩) (by k_ne) (by k_ne) (by k_ne) (by k_ne) (by omega) (by rw [e1, e2, e3]; exact (by dsimp only [Has]; repeat' (first | exact trivial | refine And.intro ?_ ?_ | refine ite_ne (by decide +kernel) ?_ | exact if_pos rfl | rfl | assumption)))⟩)
      | some x =>
        have e2 : fbV wDesc (fs ++ [(bDesc, b)]) = some x := fbV_some hq
        rw [hq] at F8
        dsimp only [optB] at F8
        k_steps
        (rename_i x d _ _ _ lA lB _ _ _ _ _ _ _ _ _ _ _ _ _ _ F10 N10; simp only [List.push_toArray] at N10; exact Hold.of ⟨_, _, _, _, rfl, F10, (cb_drop (by k_asm) (by repeat' (first | exact List.forall_mem_nil _ | refine List.forall_mem_cons.mpr ⟨?_, ?_⟩ | assumption | exact List.Mem.head _ | apply List.Mem.tail | (intro p9 hp9; (repeat' (first | exact hp9 | apply List.Mem.tail)); done)))), by k_all, loop_next hFl hvl hfs hof1 hof2 (bDesc, b) (.inr ⟨.inr (.inl rfl), hraw⟩) (by k_ne) (by k_ne) (by k_ne) (by k_ne) (by omega) (by rw [e1, e2, e3]; exact (by dsimp only [Has]; repeat' (first | exact trivial | refine And.intro ?_ ?_ | refine ite_ne (by decide +kernel) ?_ | exact if_pos rfl | rfl | assumption)))⟩)
    · have e1 : fbV wId (fs ++ [(bCte, b)]) = fbV wId fs := fbV_other cte_id
      have e2 : fbV wDesc (fs ++ [(bCte, b)]) = fbV wDesc fs := fbV_other cte_desc
      k_steps
      refine Hold.of ⟨fa, vs.toArray, "list", _, fun j ys nw => nw = (I, oI) :: (fa, listOf vs.toArray kf) :: (tp, listOf #[.ref ca, .int (6 + 2 * (i : Int) + 1 + 1) t3] kt) :: (pd, po) :: (ca, listOf cv.toArray kc) :: (s1.heap.objs.size + 1, oc2) :: flds ∧ ys.isEmpty = (fs.take j).all (fun f => !(f.1 == bCte)), rfl, .inl rfl, rfl, F8, N9, .inr ⟨_, .tail _ (.head _), rfl, _, rfl⟩, by rw [sizeLine_eq, List.size_toArray]; omega, ⟨rfl, rfl⟩, fun _ _ _ hJ => by rw [hJ.1]; exact .inr ⟨_, .tail _ (.head _), rfl, _, rfl⟩, ?_, ?_⟩
      · rintro j v I2 oI2 C oC D m₂ ys nw h2 tk2 E' hv ⟨rfl, hys⟩ hC hx' F' N' off ne
        have hv' : vs[j]? = some v := by simpa using hv
        obtain ⟨f, hf, fr, fd, kh1, kt1, nt, kh2, kt2, rt, kk, rfl, m1, m2⟩ := hFl.at hv'
        have htk : fs.take (j + 1) = fs.take j ++ [f] := by rw [List.take_add_one, hf]; rfl
        k_steps
        · rename (_ == _) = true => hz
          refine Hold.of ⟨_, _, _, rfl, by k_asm, by k_asm, off, rfl, ?_⟩
          have hz : (f.1 == bCte) = true := beq_bytes hz
          rw [htk, List.all_append, List.all_cons, hz]
          simp
        · rename (_ == _) = false => hz
          refine Hold.of ⟨_, _, _, rfl, by k_asm, by k_asm, off, rfl, ?_⟩
          have hz : (f.1 == bCte) = false := beq_bytes hz
          rw [htk, List.all_append, List.all_cons, hz, hys]
          simp
      · rintro D ys nw h2 tk2 ⟨rfl, hys⟩ F' N' off
        have hlen : vs.toArray.size = fs.length := by rw [List.size_toArray]; exact hFl.length
        rw [hlen, List.take_length] at hys
        simp only [LCg.Off1] at off
        have o2 : @Ne Nat fa D := off.2.1
        have o3 : @Ne Nat tp D := off.2.2.1
        have hall : fs.all (fun f => !(f.1 == bCte)) = true ↔ fbV wCte fs = none := by
          rw [← first_iff hfs, List.all_eq_true]
          exact ⟨fun h f hf => by simpa using h f hf, fun h f hf => by simpa using h f hf⟩
        clear F8 N9
        cases hq : fbV wCte fs with
        | none =>
          have hz : ys.isEmpty = true := by rw [hys]; exact hall.mpr hq
          have e3 : fbV wCte (fs ++ [(bCte, b)]) = some (unfV b) := fbV_new hq cte_cte
          clear hys hall
          k_steps
          (rename_i x d _ _ _ lA lB _ _ _ _ _ _ _ _ _ _ _ _ _ _ F10 N10; simp only [List.push_toArray] at N10; exact Hold.of ⟨_, _, _, _, rfl, F10, (cb_drop (by k_asm) (by repeat' (first | exact List.forall_mem_nil _ | refine List.forall_mem_cons.mpr ⟨?_, ?_⟩ | assumption | exact List.Mem.head _ | apply List.Mem.tail | (intro p9 hp9; (repeat' (first | exact hp9 | apply List.Mem.tail)); done)))), by k_all, loop_next hFl hvl hfs hof1 hof2 (bCte, b) (.inr ⟨.inr (.inr rfl), hraw⟩) (by k_ne) (by k_ne) (by k_ne) (by k_ne) (by omega) (by rw [e1, e2, e3]; exact (by dsimp only [Has]; repeat' (first | exact trivial | refine And.intro ?_ ?_ | refine ite_ne (by decide +kernel) ?_ | exact if_pos rfl | rfl | assumption)))⟩)
        | some x =>
          have hz : ys.isEmpty = false := by
            rw [hys, Bool.eq_false_iff]
            intro h
            rw [hall.mp h] at hq
            cases hq
          have e3 : fbV wCte (fs ++ [(bCte, b)]) = some x := fbV_some hq
          clear hys hall
          rw [hq] at F'
          k_steps
          (rename_i x d _ _ _ lA lB _ _ _ _ _ _ _ _ _ _ _ _ _ _ F10 N10; simp only [List.push_toArray] at N10; exact Hold.of ⟨_, _, _, _, rfl, F10, (cb_drop (by k_asm) (by repeat' (first | exact List.forall_mem_nil _ | refine List.forall_mem_cons.mpr ⟨?_, ?_⟩ | assumption | exact List.Mem.head _ | apply List.Mem.tail | (intro p9 hp9; (repeat' (first | exact hp9 | apply List.Mem.tail)); done)))), by k_all, loop_next hFl hvl hfs hof1 hof2 (bCte, b) (.inr ⟨.inr (.inr rfl), hraw⟩) (by k_ne) (by k_ne) (by k_ne) (by k_ne) (by omega) (by rw [e1, e2, e3]; exact (by dsimp only [Has]; repeat' (first | exact trivial | refine And.intro ?_ ?_ | refine ite_ne (by decide +kernel) ?_ | exact if_pos rfl | rfl | assumption)))⟩)
  · rintro m₁ nx h tk ⟨vs, kf, tt, kt, flds, fs, ti, tw, te, rfl, hFl, hvl, hfs, hof1, hof2, hHas⟩ F7 N7
    dsimp only
    clear hr F6 N6 N5 arm3 arm4 arm7 arm8 arm9 arm10
    have arm11 := Armed.on 11
    have F8 := fr_look F7 hHas
    dsimp only [look] at F8
    clear F7
    k_steps
    refine Hold.of ?_
    refine cut (fun fl s' => Hold (Ex8 fun (bg sz : Int) (tb tz t3 : Tok) (h' : Heap) (tk' : Tok) (m' : Str → Option Value) => fl = .next ∧ s' = { s1 with heap := h', toks := tk' } ∧ 0 ≤ bg ∧ bg < 50 ∧ 0 ≤ sz ∧ sz < 90 ∧ Fr s1.heap s1.heap.objs.size h' m' ∧ News s1.heap s1.heap.objs.size h' ((fa, listOf vs.toArray kf) :: (tp, listOf #[.ref ca, .int (6 + 2 * (n9 : Int) + 1 + 1) t3] kt) :: (pd, po) :: (ca, listOf cv.toArray kc) :: (s1.heap.objs.size + 1, oc2) :: flds) ∧
      Has [(Str.ofString "begin", .int bg tb), (Str.ofString "size", .int sz tz), (Str.ofString "fields", .ref fa), (Str.ofString "told_id", optB (fbV wId fs) ti), (Str.ofString "told_words", optB (fbV wDesc fs) tw), (Str.ofString "word", .bytes (octS (encV (fbV wCte fs))) te), (Str.ofString "params", .ref pd), (Str.ofString "top", .str top t1), (Str.ofString "sub", .str sub t2)] m')) ?_ ?_
    · -- done
      k_steps
      refine Hold.of ⟨_, _, _, _, _, _, _, _, by first | trivial | rfl, rfl, ?_, ?_, ?_, ?_, by k_asm, (cb_drop (by k_asm) (by repeat' (first | exact List.forall_mem_nil _ | refine List.forall_mem_cons.mpr ⟨?_, ?_⟩ | assumption | exact List.Mem.head _ | apply List.Mem.tail | (intro p9 hp9; (repeat' (first | exact hp9 | apply List.Mem.tail)); done)))), (by dsimp only [Has]; repeat' (first | exact trivial | refine And.intro ?_ ?_ | refine ite_ne (by decide +kernel) ?_ | exact if_pos rfl | rfl | assumption))⟩ <;> assumption
    rintro v s' hP
    obtain ⟨bg, sz, tb, tz, t3, h', tk', m', rfl, rfl, hb1, hb2, hz1, hz2, F9, N9, hHas⟩ := Hold.out hP
    clear hP F8 N7
    have arm12 := Armed.on 12
    have F8 := fr_look F9 hHas
    dsimp only [look] at F8
    clear F9
    k_steps
    clear hHas
    refine Hold.of ?_
    refine cut (fun fl s' => Hold (Ex23 fun (pa qd ka ko kd : Addr) (q1 q2 q3 q4 q5 q6 q7 q8 u1 u2 u3 u6 e1 e2 e3 : Tok) (h' : Heap) (tk' : Tok) (m' : Str → Option Value) => fl = .next ∧ s' = { s1 with heap := h', toks := tk' } ∧ @LT.lt Nat _ fa kd ∧ @LT.lt Nat _ tp kd ∧ @LT.lt Nat _ kd ko ∧ @LT.lt Nat _ ko qd ∧ @LT.lt Nat _ qd pa ∧ @LT.lt Nat _ pa ka ∧ AllLt kd flds ∧ Fr s1.heap s1.heap.objs.size h' m' ∧ News s1.heap s1.heap.objs.size h' ((ka, listOf #[] 0) :: (pa, instObj 294 qd) :: (qd, (dictOf [⟨PyData.keyHash w.params (Str.ofString "begin"), .str (Str.ofString "begin") q1, .int bg u1⟩, ⟨PyData.keyHash w.params (Str.ofString "body"), .str (Str.ofString "body") q2, .int (bg + 7) u2⟩, ⟨PyData.keyHash w.params (Str.ofString "end"), .str (Str.ofString "end") q3, .int (bg + 7 + sz) u3⟩, ⟨PyData.keyHash w.params (Str.ofString "fields"), .str (Str.ofString "fields") q4, .ref fa⟩, ⟨PyData.keyHash w.params (Str.ofString "kind"), .str (Str.ofString "kind") q5, .ref ko⟩, ⟨PyData.keyHash w.params (Str.ofString "encoding"), .str (Str.ofString "encoding") q6, .str (encV (fbV wCte fs)) u6⟩, ⟨PyData.keyHash w.params (Str.ofString "kids"), .str (Str.ofString "kids") q7, .ref ka⟩, ⟨PyData.keyHash w.params (Str.ofString "inner"), .str (Str.ofString "inner") q8, .none⟩] 8)) :: (ko, instObj 266 kd) :: (kd, (dictOf [⟨PyData.keyHash w.params (Str.ofString "top"), .str (Str.ofString "top") e1, .str top t1⟩, ⟨PyData.keyHash w.params (Str.ofString "sub"), .str (Str.ofString "sub") e2, .str sub t2⟩, ⟨PyData.keyHash w.params (Str.ofString "params"), .str (Str.ofString "params") e3, .ref pd⟩] 3)) :: (fa, listOf vs.toArray kf) ::  (tp, listOf #[.ref ca, .int (6 + 2 * (n9 : Int) + 1 + 1) t3] kt) :: (pd, po) :: (ca, listOf cv.toArray kc) :: (s1.heap.objs.size + 1, oc2) :: flds) ∧
      Has [(Str.ofString "part", .ref pa), (Str.ofString "size", .int sz tz), (Str.ofString "told_id", optB (fbV wId fs) ti), (Str.ofString "told_words", optB (fbV wDesc fs) tw), (Str.ofString "word", .bytes (octS (encV (fbV wCte fs))) te), (Str.ofString "params", .ref pd), (Str.ofString "top", .str top t1), (Str.ofString "sub", .str sub t2)] m')) ?_ ?_
    · -- done
      k_steps
      rename News _ _ _ _ => N10
      rename (_ ∧ _ ∧ _ ∧ _ ∧ _ ∧ AllLt _ flds) => lK
      refine Hold.of ⟨_, _, _, _, _, _, _, _, _, _, _, _, _, _, _, _, _, _, _, _, _, _, _, by first | trivial | rfl, rfl, ?_, ?_, ?_, ?_, ?_, ?_, ?_, by k_asm, N10, (by dsimp only [Has]; repeat' (first | exact trivial | refine And.intro ?_ ?_ | refine ite_ne (by decide +kernel) ?_ | exact if_pos rfl | rfl | assumption))⟩
      all_goals first | omega | exact lK.2.2.2.2.2
    rintro v s' hP
    obtain ⟨pa, qd, ka, ko, kd, q1, q2, q3, q4, q5, q6, q7, q8, u1, u2, u3, u6, e1, e2, e3, h', tk', m', rfl, rfl, lk1, lk2, lk3, lk4, lk5, lk6, lk7, F9, N9, hHas⟩ := Hold.out hP
    clear hP F8
    have hof3 : ∀ p ∈ flds, p.1 ≠ qd := tbn_neAll (tbn_up (Nat.lt_trans lk3 lk4) lk7)
    have arm13 := Armed.on 13
    have F8 := fr_look F9 hHas
    dsimp only [look] at F8
    clear F9
    k_steps
    rename News _ _ _ _ => N10
    rename Fr _ _ _ _ => F10
    rename_i dw _ t4 _ _ lo9 hi9 _
    obtain ⟨hw, hhw⟩ : ∃ hw : Bool, (dw == 1) = hw := ⟨_, rfl⟩
    rw [hhw] at F10
    clear hhw lo9 hi9 F8 N9 hHas
    refine Hold.of ?_
    refine cut (fun fl s' => Hold (Ex6 fun (kb : Addr) (kids : List Value) (kk : Nat) (h' : Heap) (tk' : Tok) (m' : Str → Option Value) => fl = .next ∧ s' = { s1 with heap := h', toks := tk' } ∧ @LT.lt Nat _ pa kb ∧ kids.isEmpty = !(hw && top == Str.ofString "multipart") ∧ Fr s1.heap s1.heap.objs.size h' m' ∧ News s1.heap s1.heap.objs.size h' ((kb, listOf kids.toArray kk) :: (pa, instObj 294 qd) :: (qd, (dictOf [⟨PyData.keyHash w.params (Str.ofString "begin"), .str (Str.ofString "begin") q1, .int bg u1⟩, ⟨PyData.keyHash w.params (Str.ofString "body"), .str (Str.ofString "body") q2, .int (bg + 7) u2⟩, ⟨PyData.keyHash w.params (Str.ofString "end"), .str (Str.ofString "end") q3, .int (bg + 7 + sz) u3⟩, ⟨PyData.keyHash w.params (Str.ofString "fields"), .str (Str.ofString "fields") q4, .ref fa⟩, ⟨PyData.keyHash w.params (Str.ofString "kind"), .str (Str.ofString "kind") q5, .ref ko⟩, ⟨PyData.keyHash w.params (Str.ofString "encoding"), .str (Str.ofString "encoding") q6, .str (encV (fbV wCte fs)) u6⟩, ⟨PyData.keyHash w.params (Str.ofString "kids"), .str (Str.ofString "kids") q7, .ref kb⟩, ⟨PyData.keyHash w.params (Str.ofString "inner"), .str (Str.ofString "inner") q8, .none⟩] 8)) :: (ko, instObj 266 kd) :: (kd, (dictOf [⟨PyData.keyHash w.params (Str.ofString "top"), .str (Str.ofString "top") e1, .str top t1⟩, ⟨PyData.keyHash w.params (Str.ofString "sub"), .str (Str.ofString "sub") e2, .str sub t2⟩, ⟨PyData.keyHash w.params (Str.ofString "params"), .str (Str.ofString "params") e3, .ref pd⟩] 3)) :: (fa, listOf vs.toArray kf) ::  (tp, listOf #[.ref ca, .int (6 + 2 * (n9 : Int) + 1 + 1 + 1) t4] kt) :: (pd, po) :: (ca, listOf cv.toArray kc) :: (s1.heap.objs.size + 1, oc2) :: flds) ∧
      Has [(Str.ofString "has_within", .bool hw), (Str.ofString "part", .ref pa), (Str.ofString "size", .int sz tz), (Str.ofString "told_id", optB (fbV wId fs) ti), (Str.ofString "told_words", optB (fbV wDesc fs) tw), (Str.ofString "word", .bytes (octS (encV (fbV wCte fs))) te), (Str.ofString "params", .ref pd), (Str.ofString "top", .str top t1), (Str.ofString "sub", .str sub t2)] m')) ?_ ?_
    · -- done
      cases hw with
      | false =>
        k_steps
        exact Hold.of ⟨ka, [], 0, _, _, _, by first | trivial | rfl, rfl, lk6, rfl, by k_asm, by k_asm, (by dsimp only [Has]; repeat' (first | exact trivial | refine And.intro ?_ ?_ | refine ite_ne (by decide +kernel) ?_ | exact if_pos rfl | rfl | assumption))⟩
      | true =>
        simp only [kindMenu, List.mem_cons, List.mem_nil_iff, or_false, Prod.mk.injEq] at hmenu
        rcases hmenu with ⟨rfl, rfl⟩ | ⟨rfl, rfl⟩ | ⟨rfl, rfl⟩ | ⟨rfl, rfl⟩ | ⟨rfl, rfl⟩
        · k_steps
          exact Hold.of ⟨ka, [], 0, _, _, _, by first | trivial | rfl, rfl, lk6, by decide +kernel, by k_asm, by k_asm, (by dsimp only [Has]; repeat' (first | exact trivial | refine And.intro ?_ ?_ | refine ite_ne (by decide +kernel) ?_ | exact if_pos rfl | rfl | assumption))⟩
        · k_steps
          rename News _ _ _ _ => N11
          rename_i kb _ l11 _ _
          exact Hold.of ⟨kb, [_], 0, _, _, _, by first | trivial | rfl, rfl, by omega, by rw [beq_self_eq_true]; rfl, by k_asm, (cb_drop (by k_asm) (by repeat' (first | exact List.forall_mem_nil _ | refine List.forall_mem_cons.mpr ⟨?_, ?_⟩ | assumption | exact List.Mem.head _ | apply List.Mem.tail | (intro p9 hp9; (repeat' (first | exact hp9 | apply List.Mem.tail)); done)))), (by dsimp only [Has]; repeat' (first | exact trivial | refine And.intro ?_ ?_ | refine ite_ne (by decide +kernel) ?_ | exact if_pos rfl | rfl | assumption))⟩
        · k_steps
          exact Hold.of ⟨ka, [], 0, _, _, _, by first | trivial | rfl, rfl, lk6, by decide +kernel, by k_asm, by k_asm, (by dsimp only [Has]; repeat' (first | exact trivial | refine And.intro ?_ ?_ | refine ite_ne (by decide +kernel) ?_ | exact if_pos rfl | rfl | assumption))⟩
        · k_steps
          exact Hold.of ⟨ka, [], 0, _, _, _, by first | trivial | rfl, rfl, lk6, by decide +kernel, by k_asm, by k_asm, (by dsimp only [Has]; repeat' (first | exact trivial | refine And.intro ?_ ?_ | refine ite_ne (by decide +kernel) ?_ | exact if_pos rfl | rfl | assumption))⟩
        · k_steps
          exact Hold.of ⟨ka, [], 0, _, _, _, by first | trivial | rfl, rfl, lk6, by decide +kernel, by k_asm, by k_asm, (by dsimp only [Has]; repeat' (first | exact trivial | refine And.intro ?_ ?_ | refine ite_ne (by decide +kernel) ?_ | exact if_pos rfl | rfl | assumption))⟩
    rintro v s' hP
    obtain ⟨kb, kids, kk, h', tk', m', rfl, rfl, lkb, hkids, F9, N9, hHas⟩ := Hold.out hP
    clear hP F10 N10 lk6
    have F8 := fr_look F9 hHas
    dsimp only [look] at F8
    clear F9
    have arm13 := Armed.on 13
    k_steps
    refine Hold.of ?_
    refine cut (fun fl s' => Hold (Ex4 fun (inner : Value) (h' : Heap) (tk' : Tok) (m' : Str → Option Value) => fl = .next ∧ s' = { s1 with heap := h', toks := tk' } ∧ ((inner = .none ∧ (hw && sub == Str.ofString "rfc822") = false) ∨ ∃ x, inner = .ref x ∧ (hw && sub == Str.ofString "rfc822") = true) ∧ Fr s1.heap s1.heap.objs.size h' m' ∧ News s1.heap s1.heap.objs.size h' ((kb, listOf kids.toArray kk) :: (pa, instObj 294 qd) :: (qd, (dictOf [⟨PyData.keyHash w.params (Str.ofString "begin"), .str (Str.ofString "begin") q1, .int bg u1⟩, ⟨PyData.keyHash w.params (Str.ofString "body"), .str (Str.ofString "body") q2, .int (bg + 7) u2⟩, ⟨PyData.keyHash w.params (Str.ofString "end"), .str (Str.ofString "end") q3, .int (bg + 7 + sz) u3⟩, ⟨PyData.keyHash w.params (Str.ofString "fields"), .str (Str.ofString "fields") q4, .ref fa⟩, ⟨PyData.keyHash w.params (Str.ofString "kind"), .str (Str.ofString "kind") q5, .ref ko⟩, ⟨PyData.keyHash w.params (Str.ofString "encoding"), .str (Str.ofString "encoding") q6, .str (encV (fbV wCte fs)) u6⟩, ⟨PyData.keyHash w.params (Str.ofString "kids"), .str (Str.ofString "kids") q7, .ref kb⟩, ⟨PyData.keyHash w.params (Str.ofString "inner"), .str (Str.ofString "inner") q8, inner⟩] 8)) :: (ko, instObj 266 kd) :: (kd, (dictOf [⟨PyData.keyHash w.params (Str.ofString "top"), .str (Str.ofString "top") e1, .str top t1⟩, ⟨PyData.keyHash w.params (Str.ofString "sub"), .str (Str.ofString "sub") e2, .str sub t2⟩, ⟨PyData.keyHash w.params (Str.ofString "params"), .str (Str.ofString "params") e3, .ref pd⟩] 3)) :: (fa, listOf vs.toArray kf) ::  (tp, listOf #[.ref ca, .int (6 + 2 * (n9 : Int) + 1 + 1 + 1) t4] kt) :: (pd, po) :: (ca, listOf cv.toArray kc) :: (s1.heap.objs.size + 1, oc2) :: flds) ∧
      Has [(Str.ofString "has_within", .bool hw), (Str.ofString "part", .ref pa), (Str.ofString "size", .int sz tz), (Str.ofString "told_id", optB (fbV wId fs) ti), (Str.ofString "told_words", optB (fbV wDesc fs) tw), (Str.ofString "word", .bytes (octS (encV (fbV wCte fs))) te), (Str.ofString "params", .ref pd), (Str.ofString "top", .str top t1), (Str.ofString "sub", .str sub t2)] m')) ?_ ?_
    · -- done
      clear hkids
      cases hw with
      | false =>
        k_steps
        exact Hold.of ⟨.none, _, _, _, by first | trivial | rfl, rfl, .inl ⟨rfl, rfl⟩, by k_asm, by k_asm, (by dsimp only [Has]; repeat' (first | exact trivial | refine And.intro ?_ ?_ | refine ite_ne (by decide +kernel) ?_ | exact if_pos rfl | rfl | assumption))⟩
      | true =>
        simp only [kindMenu, List.mem_cons, List.mem_nil_iff, or_false, Prod.mk.injEq] at hmenu
        rcases hmenu with ⟨rfl, rfl⟩ | ⟨rfl, rfl⟩ | ⟨rfl, rfl⟩ | ⟨rfl, rfl⟩ | ⟨rfl, rfl⟩
        · k_steps
          exact Hold.of ⟨.none, _, _, _, by first | trivial | rfl, rfl, .inl ⟨rfl, by decide +kernel⟩, by k_asm, by k_asm, (by dsimp only [Has]; repeat' (first | exact trivial | refine And.intro ?_ ?_ | refine ite_ne (by decide +kernel) ?_ | exact if_pos rfl | rfl | assumption))⟩
        · k_steps
          exact Hold.of ⟨.none, _, _, _, by first | trivial | rfl, rfl, .inl ⟨rfl, by decide +kernel⟩, by k_asm, by k_asm, (by dsimp only [Has]; repeat' (first | exact trivial | refine And.intro ?_ ?_ | refine ite_ne (by decide +kernel) ?_ | exact if_pos rfl | rfl | assumption))⟩
        · k_steps
          exact Hold.of ⟨.ref _, _, _, _, by first | trivial | rfl, rfl, .inr ⟨_, rfl, by decide +kernel⟩, by k_asm, (cb_drop (by k_asm) (by repeat' (first | exact List.forall_mem_nil _ | refine List.forall_mem_cons.mpr ⟨?_, ?_⟩ | assumption | exact List.Mem.head _ | apply List.Mem.tail | (intro p9 hp9; (repeat' (first | exact hp9 | apply List.Mem.tail)); done)))), (by dsimp only [Has]; repeat' (first | exact trivial | refine And.intro ?_ ?_ | refine ite_ne (by decide +kernel) ?_ | exact if_pos rfl | rfl | assumption))⟩
        · k_steps
          exact Hold.of ⟨.none, _, _, _, by first | trivial | rfl, rfl, .inl ⟨rfl, by decide +kernel⟩, by k_asm, by k_asm, (by dsimp only [Has]; repeat' (first | exact trivial | refine And.intro ?_ ?_ | refine ite_ne (by decide +kernel) ?_ | exact if_pos rfl | rfl | assumption))⟩
        · k_steps
          exact Hold.of ⟨.none, _, _, _, by first | trivial | rfl, rfl, .inl ⟨rfl, by decide +kernel⟩, by k_asm, by k_asm, (by dsimp only [Has]; repeat' (first | exact trivial | refine And.intro ?_ ?_ | refine ite_ne (by decide +kernel) ?_ | exact if_pos rfl | rfl | assumption))⟩
    rintro v s' hP
    obtain ⟨inner, h', tk', m', rfl, rfl, hinn, F9, N9, hHas⟩ := Hold.out hP
    clear hP F8
    have F8 := fr_look F9 hHas
    dsimp only [look] at F8
    clear F9 hHas
    have arm4 := Armed.on 4
    k_steps
    rename News _ _ _ _ => N10
    rename Fr _ _ _ _ => F10
    rename ParOk _ _ => hps
    rename StrsAre _ _ => hS
    rename sortedS _ = true => hO
    rename List.Perm _ _ => hpm
    rename (_ ∧ _ ∧ _ ∧ _ ∧ _ ∧ _ ∧ _ ∧ _ ∧ _ ∧ _ ∧ _ ∧ AllLt _ flds) => lB
    rename_i ra _ lr _ _ _ Ba _ _ rv _ c9
    obtain rfl := sorted_uniq (hpm.trans hps.perm.symm) hO hps.sorted
    clear hO hpm
    have hlen : rv.length = sp.length := by rw [hS.length, List.length_map]
    have hof4 : ∀ p ∈ flds, p.1 ≠ ra := tbn_neAll lr.2.2.2.2.2.2.2.2.2.2
    refine Hold.of ?_
    refine for_listJ (J := fun i m' nx => ∃ (xs : List Value) (kx : Nat), nx = (Ba, listOf rv.toArray c9) :: (ra, listOf xs.toArray kx) :: (kb, listOf kids.toArray kk) :: (pa, instObj 294 qd) :: (qd, (dictOf [⟨PyData.keyHash w.params (Str.ofString "begin"), .str (Str.ofString "begin") q1, .int bg u1⟩, ⟨PyData.keyHash w.params (Str.ofString "body"), .str (Str.ofString "body") q2, .int (bg + 7) u2⟩, ⟨PyData.keyHash w.params (Str.ofString "end"), .str (Str.ofString "end") q3, .int (bg + 7 + sz) u3⟩, ⟨PyData.keyHash w.params (Str.ofString "fields"), .str (Str.ofString "fields") q4, .ref fa⟩, ⟨PyData.keyHash w.params (Str.ofString "kind"), .str (Str.ofString "kind") q5, .ref ko⟩, ⟨PyData.keyHash w.params (Str.ofString "encoding"), .str (Str.ofString "encoding") q6, .str (encV (fbV wCte fs)) u6⟩, ⟨PyData.keyHash w.params (Str.ofString "kids"), .str (Str.ofString "kids") q7, .ref kb⟩, ⟨PyData.keyHash w.params (Str.ofString "inner"), .str (Str.ofString "inner") q8, inner⟩] 8)) :: (ko, instObj 266 kd) :: (kd, (dictOf [⟨PyData.keyHash w.params (Str.ofString "top"), .str (Str.ofString "top") e1, .str top t1⟩, ⟨PyData.keyHash w.params (Str.ofString "sub"), .str (Str.ofString "sub") e2, .str sub t2⟩, ⟨PyData.keyHash w.params (Str.ofString "params"), .str (Str.ofString "params") e3, .ref pd⟩] 3)) :: (fa, listOf vs.toArray kf) ::  (tp, listOf #[.ref ca, .int (6 + 2 * (n9 : Int) + 1 + 1 + 1) t4] kt) :: (pd, po) :: (ca, listOf cv.toArray kc) :: (s1.heap.objs.size + 1, oc2) :: flds ∧ BytsAre xs (flatB (sp.take i)) ∧ Has [(Str.ofString "row", .ref ra), (Str.ofString "has_within", .bool hw), (Str.ofString "part", .ref pa), (Str.ofString "size", .int sz tz), (Str.ofString "told_id", optB (fbV wId fs) ti), (Str.ofString "told_words", optB (fbV wDesc fs) tw), (Str.ofString "word", .bytes (octS (encV (fbV wCte fs))) te), (Str.ofString "params", .ref pd), (Str.ofString "top", .str top t1), (Str.ofString "sub", .str sub t2)] m') rfl (.head _) ?_ F10 N10 ⟨[], 0, rfl, .nil, (by dsimp only [Has]; repeat' (first | exact trivial | refine And.intro ?_ ?_ | refine ite_ne (by decide +kernel) ?_ | exact if_pos rfl | rfl | assumption))⟩ ?_ ?_
    · rintro i m' nx ⟨xs, kx, rfl, _⟩
      exact .head _
    · -- done
      rintro i v m₁ nx I oI h tk hv ⟨xs, kx, rfl, hI, hH⟩ hoff F2 N2
      have hi : i < sp.length := by
        rw [← hlen]
        exact (List.getElem?_eq_some_iff.mp hv).1
      obtain ⟨t0, ht0⟩ := hS.get i (sp[i].1) (by simp [hi])
      rw [hv] at ht0
      cases ht0
      simp only [List.forall_mem_cons] at hoff
      obtain ⟨(hI1 : @Ne Nat Ba I), (hI2 : @Ne Nat ra I), (hI3 : @Ne Nat kb I), (hI4 : @Ne Nat pa I), (hI5 : @Ne Nat qd I), (hI6 : @Ne Nat ko I), (hI7 : @Ne Nat kd I), (hI8 : @Ne Nat fa I), (hI9 : @Ne Nat tp I), (hI10 : @Ne Nat pd I), (hI11 : @Ne Nat ca I), (hI12 : @Ne Nat (s1.heap.objs.size + 1) I), hI13⟩ := hoff
      have F8 := fr_look F2 (has_skip (by kernel_rfl) hH)
      dsimp only [look] at F8
      clear F2 F10 N10
      have hlk := hps.look _ (List.getElem_mem hi)
      obtain ⟨q1, q2⟩ := menu_enc (hps.menu _ (List.getElem_mem hi))
      have htake : flatB (sp.take (i + 1)) = flatB (sp.take i) ++ [octS sp[i].1, byteArr (u8L sp[i].2.cps.toList)] := by
        rw [List.take_succ_eq_append_getElem hi, flatB_append]
        rfl
      have hvl : xs.length ≤ 5000 := by
        have h1 := hI.length
        rw [flatB_length, List.length_take] at h1
        have h2 := hps.perm.length_eq
        rw [List.length_map, List.length_map] at h2
        have := hps.len
        omega
      generalize sp[i] = pr at *
      obtain ⟨nm, tx⟩ := pr
      dsimp only at q1 q2 hlk htake F8
      k_steps
      rename News _ _ _ _ => N3
      refine Hold.of ⟨_, _, _, _, rfl, by k_asm, (cb_drop (by k_asm) (by repeat' (first | exact List.forall_mem_nil _ | refine List.forall_mem_cons.mpr ⟨?_, ?_⟩ | assumption | exact List.Mem.head _ | apply List.Mem.tail | (intro p9 hp9; (repeat' (first | exact hp9 | apply List.Mem.tail)); done)))), by k_all, _, _, rfl, htake ▸ hI.append (.cons _ _ (.cons _ _ .nil)), (by dsimp only [Has]; repeat' (first | exact trivial | refine And.intro ?_ ?_ | refine ite_ne (by decide +kernel) ?_ | exact if_pos rfl | rfl | assumption))⟩
    · rintro m₁ nx h tk ⟨xs, kx, rfl, hI, hH⟩ F2 N2
      have hI' : BytsAre xs (flatB sp) := by
        rw [List.take_of_length_le (by rw [hlen]; exact Nat.le_refl _)] at hI
        exact hI
      clear hI
      have F8 := fr_look F2 hH
      dsimp only [look] at F8
      clear F2 F10 N10
      dsimp only
      have arm15 := Armed.on 15
      k_steps
      refine Hold.of ?_
      have hxl : xs.length ≤ 100 := by
        have h1 := hI'.length
        rw [flatB_length] at h1
        have h2 := hps.perm.length_eq
        rw [List.length_map, List.length_map] at h2
        have := hps.len
        omega
      obtain ⟨mt1, mt2⟩ := kind_enc hmenu
      refine cut (fun fl s' => Hold (Ex7 fun (f1 : Addr) (x3 : Value) (t5 t6 : Tok) (h' : Heap) (tk' : Tok) (m' : Str → Option Value) => fl = .next ∧ s' = { s1 with heap := h', toks := tk' } ∧ @LT.lt Nat _ ra f1 ∧ ((sp = [] ∧ x3 = .none) ∨ (sp ≠ [] ∧ x3 = .ref ra)) ∧ Fr s1.heap s1.heap.objs.size h' m' ∧ News s1.heap s1.heap.objs.size h' ((f1, listOf #[.bytes (octS top) t5, .bytes (octS sub) t6, x3] 0) :: (ra, listOf xs.toArray kx) :: (kb, listOf kids.toArray kk) :: (pa, instObj 294 qd) :: (qd, (dictOf [⟨PyData.keyHash w.params (Str.ofString "begin"), .str (Str.ofString "begin") q1, .int bg u1⟩, ⟨PyData.keyHash w.params (Str.ofString "body"), .str (Str.ofString "body") q2, .int (bg + 7) u2⟩, ⟨PyData.keyHash w.params (Str.ofString "end"), .str (Str.ofString "end") q3, .int (bg + 7 + sz) u3⟩, ⟨PyData.keyHash w.params (Str.ofString "fields"), .str (Str.ofString "fields") q4, .ref fa⟩, ⟨PyData.keyHash w.params (Str.ofString "kind"), .str (Str.ofString "kind") q5, .ref ko⟩, ⟨PyData.keyHash w.params (Str.ofString "encoding"), .str (Str.ofString "encoding") q6, .str (encV (fbV wCte fs)) u6⟩, ⟨PyData.keyHash w.params (Str.ofString "kids"), .str (Str.ofString "kids") q7, .ref kb⟩, ⟨PyData.keyHash w.params (Str.ofString "inner"), .str (Str.ofString "inner") q8, inner⟩] 8)) :: (ko, instObj 266 kd) :: (kd, (dictOf [⟨PyData.keyHash w.params (Str.ofString "top"), .str (Str.ofString "top") e1, .str top t1⟩, ⟨PyData.keyHash w.params (Str.ofString "sub"), .str (Str.ofString "sub") e2, .str sub t2⟩, ⟨PyData.keyHash w.params (Str.ofString "params"), .str (Str.ofString "params") e3, .ref pd⟩] 3)) :: (fa, listOf vs.toArray kf) ::  (tp, listOf #[.ref ca, .int (6 + 2 * (n9 : Int) + 1 + 1 + 1) t4] kt) :: (pd, po) :: (ca, listOf cv.toArray kc) :: (s1.heap.objs.size + 1, oc2) :: flds) ∧
        Has [(Str.ofString "first", .ref f1), (Str.ofString "has_within", .bool hw), (Str.ofString "part", .ref pa), (Str.ofString "size", .int sz tz), (Str.ofString "told_id", optB (fbV wId fs) ti), (Str.ofString "told_words", optB (fbV wDesc fs) tw), (Str.ofString "word", .bytes (octS (encV (fbV wCte fs))) te), (Str.ofString "params", .ref pd), (Str.ofString "top", .str top t1), (Str.ofString "sub", .str sub t2)] m')) ?_ ?_
      · -- done
        by_cases hsp : sp = []
        · have he : xs.isEmpty = true := by
            subst hsp
            cases hI'
            rfl
          k_steps
          refine Hold.of ⟨_, _, _, _, _, _, _, by first | trivial | rfl, rfl, ?_, .inl ⟨hsp, rfl⟩, by k_asm, (cb_drop (by k_asm) (by repeat' (first | exact List.forall_mem_nil _ | refine List.forall_mem_cons.mpr ⟨?_, ?_⟩ | assumption | exact List.Mem.head _ | apply List.Mem.tail | (intro p9 hp9; (repeat' (first | exact hp9 | apply List.Mem.tail)); done)))), (by dsimp only [Has]; repeat' (first | exact trivial | refine And.intro ?_ ?_ | refine ite_ne (by decide +kernel) ?_ | exact if_pos rfl | rfl | assumption))⟩
          omega
        · have he : xs.isEmpty = false := by
            obtain ⟨q, r, rfl⟩ := List.exists_cons_of_ne_nil hsp
            cases hI'
            rfl
          k_steps
          refine Hold.of ⟨_, _, _, _, _, _, _, by first | trivial | rfl, rfl, ?_, .inr ⟨hsp, rfl⟩, by k_asm, (cb_drop (by k_asm) (by repeat' (first | exact List.forall_mem_nil _ | refine List.forall_mem_cons.mpr ⟨?_, ?_⟩ | assumption | exact List.Mem.head _ | apply List.Mem.tail | (intro p9 hp9; (repeat' (first | exact hp9 | apply List.Mem.tail)); done)))), (by dsimp only [Has]; repeat' (first | exact trivial | refine And.intro ?_ ?_ | refine ite_ne (by decide +kernel) ?_ | exact if_pos rfl | rfl | assumption))⟩
          omega
      rintro v s' hP
      obtain ⟨f1, x3, t5, t6, h', tk', m', rfl, rfl, lf1, hx3, F9, N9, hHas⟩ := Hold.out hP
      have hopq := opq_eq hmenu hkids hinn
      have hin : inner = .none ∨ ∃ x, inner = .ref x := hinn.imp And.left fun ⟨x, e, _⟩ => ⟨x, e⟩
      clear hP F8 N2
      have F8 := fr_look F9 hHas
      dsimp only [look] at F8
      clear F9 hHas hinn
      have arm13 := Armed.on 13
      k_steps
      refine Hold.of ?_
      refine cut (fun fl s' => Hold (Ex9 fun (f2 : Addr) (b1 b2 : Array UInt8) (x4 : Value) (t5 t6 : Tok) (h' : Heap) (tk' : Tok) (m' : Str → Option Value) => fl = .next ∧ s' = { s1 with heap := h', toks := tk' } ∧ @LT.lt Nat _ ra f2 ∧ ((opq top sub kids inner = true ∧ b1 = appB ∧ b2 = octB ∧ x4 = .none) ∨ (opq top sub kids inner = false ∧ sp = [] ∧ b1 = octS top ∧ b2 = octS sub ∧ x4 = .none) ∨ (opq top sub kids inner = false ∧ sp ≠ [] ∧ b1 = octS top ∧ b2 = octS sub ∧ x4 = .ref ra)) ∧ Fr s1.heap s1.heap.objs.size h' m' ∧ News s1.heap s1.heap.objs.size h' ((f2, listOf #[.bytes b1 t5, .bytes b2 t6, x4] 0) :: (ra, listOf xs.toArray kx) :: (kb, listOf kids.toArray kk) :: (pa, instObj 294 qd) :: (qd, (dictOf [⟨PyData.keyHash w.params (Str.ofString "begin"), .str (Str.ofString "begin") q1, .int bg u1⟩, ⟨PyData.keyHash w.params (Str.ofString "body"), .str (Str.ofString "body") q2, .int (bg + 7) u2⟩, ⟨PyData.keyHash w.params (Str.ofString "end"), .str (Str.ofString "end") q3, .int (bg + 7 + sz) u3⟩, ⟨PyData.keyHash w.params (Str.ofString "fields"), .str (Str.ofString "fields") q4, .ref fa⟩, ⟨PyData.keyHash w.params (Str.ofString "kind"), .str (Str.ofString "kind") q5, .ref ko⟩, ⟨PyData.keyHash w.params (Str.ofString "encoding"), .str (Str.ofString "encoding") q6, .str (encV (fbV wCte fs)) u6⟩, ⟨PyData.keyHash w.params (Str.ofString "kids"), .str (Str.ofString "kids") q7, .ref kb⟩, ⟨PyData.keyHash w.params (Str.ofString "inner"), .str (Str.ofString "inner") q8, inner⟩] 8)) :: (ko, instObj 266 kd) :: (kd, (dictOf [⟨PyData.keyHash w.params (Str.ofString "top"), .str (Str.ofString "top") e1, .str top t1⟩, ⟨PyData.keyHash w.params (Str.ofString "sub"), .str (Str.ofString "sub") e2, .str sub t2⟩, ⟨PyData.keyHash w.params (Str.ofString "params"), .str (Str.ofString "params") e3, .ref pd⟩] 3)) :: (fa, listOf vs.toArray kf) ::  (tp, listOf #[.ref ca, .int (6 + 2 * (n9 : Int) + 1 + 1 + 1) t4] kt) :: (pd, po) :: (ca, listOf cv.toArray kc) :: (s1.heap.objs.size + 1, oc2) :: flds) ∧
        Has [(Str.ofString "first", .ref f2), (Str.ofString "has_within", .bool hw), (Str.ofString "part", .ref pa), (Str.ofString "size", .int sz tz), (Str.ofString "told_id", optB (fbV wId fs) ti), (Str.ofString "told_words", optB (fbV wDesc fs) tw), (Str.ofString "word", .bytes (octS (encV (fbV wCte fs))) te), (Str.ofString "params", .ref pd), (Str.ofString "top", .str top t1), (Str.ofString "sub", .str sub t2)] m')) ?_ ?_
      · -- done
        simp only [kindMenu, List.mem_cons, List.mem_nil_iff, or_false, Prod.mk.injEq] at hmenu
        cases hw with
        | true =>
          have ho : opq top sub kids inner = false := hopq
          k_steps
          rcases hx3 with ⟨hsp, rfl⟩ | ⟨hsp, rfl⟩
          · exact Hold.of ⟨f1, _, _, _, t5, t6, _, _, _, by first | trivial | rfl, rfl, lf1, .inr (.inl ⟨ho, hsp, rfl, rfl, rfl⟩), by k_asm, by k_asm, (by dsimp only [Has]; repeat' (first | exact trivial | refine And.intro ?_ ?_ | refine ite_ne (by decide +kernel) ?_ | exact if_pos rfl | rfl | assumption))⟩
          · exact Hold.of ⟨f1, _, _, _, t5, t6, _, _, _, by first | trivial | rfl, rfl, lf1, .inr (.inr ⟨ho, hsp, rfl, rfl, rfl⟩), by k_asm, by k_asm, (by dsimp only [Has]; repeat' (first | exact trivial | refine And.intro ?_ ?_ | refine ite_ne (by decide +kernel) ?_ | exact if_pos rfl | rfl | assumption))⟩
        | false =>
          rcases hmenu with ⟨rfl, rfl⟩ | ⟨rfl, rfl⟩ | ⟨rfl, rfl⟩ | ⟨rfl, rfl⟩ | ⟨rfl, rfl⟩
          all_goals
            first
            | have ho : opq _ _ kids inner = false := hopq.trans (by decide +kernel)
              k_steps
              rcases hx3 with ⟨hsp, rfl⟩ | ⟨hsp, rfl⟩
              · exact Hold.of ⟨f1, _, _, _, t5, t6, _, _, _, by first | trivial | rfl, rfl, lf1, .inr (.inl ⟨ho, hsp, rfl, rfl, rfl⟩), by k_asm, by k_asm, (by dsimp only [Has]; repeat' (first | exact trivial | refine And.intro ?_ ?_ | refine ite_ne (by decide +kernel) ?_ | exact if_pos rfl | rfl | assumption))⟩
              · exact Hold.of ⟨f1, _, _, _, t5, t6, _, _, _, by first | trivial | rfl, rfl, lf1, .inr (.inr ⟨ho, hsp, rfl, rfl, rfl⟩), by k_asm, by k_asm, (by dsimp only [Has]; repeat' (first | exact trivial | refine And.intro ?_ ?_ | refine ite_ne (by decide +kernel) ?_ | exact if_pos rfl | rfl | assumption))⟩
            | have ho : opq _ _ kids inner = true := hopq.trans (by decide +kernel)
              k_steps
              refine Hold.of ⟨_, _, _, _, _, _, _, _, _, by first | trivial | rfl, rfl, ?_, .inl ⟨ho, rfl, rfl, rfl⟩, by k_asm, (cb_drop (by k_asm) (by repeat' (first | exact List.forall_mem_nil _ | refine List.forall_mem_cons.mpr ⟨?_, ?_⟩ | assumption | exact List.Mem.head _ | apply List.Mem.tail | (intro p9 hp9; (repeat' (first | exact hp9 | apply List.Mem.tail)); done)))), (by dsimp only [Has]; repeat' (first | exact trivial | refine And.intro ?_ ?_ | refine ite_ne (by decide +kernel) ?_ | exact if_pos rfl | rfl | assumption))⟩
              omega
      rintro v s' hP
      obtain ⟨f2, b1, b2, x4, t5, t6, h', tk', m', rfl, rfl, lf2, hx4, F9, N9, hHas⟩ := Hold.out hP
      clear hP F8
      have F8 := fr_look F9 hHas
      dsimp only [look] at F8
      clear F9 hHas hopq hx3 lf1
      have arm15 := Armed.on 15
      k_steps
      refine Hold.of ?_
      have hsz9 : bg + 7 + sz - (bg + 7) = sz := by omega
      obtain ⟨he1, he2⟩ := enc_ok hfs
      refine' leaf_values_c (kids := kids) (vs := vs) (fs := fs) (ps := ps) (sp := sp) ?hP ?hK ?hk0 hmenu hin ?hpar hps ?hl ?hF (fun f hf => fld_size (hfs f hf)) (fun f hf => fld_raw (hfs f hf) sub_id) (fun f hf => fld_raw (hfs f hf) sub_desc) he1 he2 ?k1 ?k2 ?k3 ?k4 ?k5 ?kK ?kd ?ku ?w1 ?w2 ?w3
      case k1 => k_asm
      case k2 => k_asm
      case k3 => k_asm
      case k4 => k_asm
      case k5 => k_asm
      case kK => exact rfl
      case kd => ktr_room
      case ku => ktr_units
      case hP => exact ⟨qd, _, _, _, _, _, _, _, _, _, _, _, _, _, _, _, _, _, _, _, _, _, _, by repeat' (first | exact List.Mem.head _ | apply List.Mem.tail), by repeat' (first | exact List.Mem.head _ | apply List.Mem.tail)⟩
      case hK => exact ⟨kd, _, _, _, _, _, _, _, _, _, by repeat' (first | exact List.Mem.head _ | apply List.Mem.tail), by repeat' (first | exact List.Mem.head _ | apply List.Mem.tail)⟩
      case hk0 => (repeat' (first | exact List.Mem.head _ | apply List.Mem.tail))
      case hpar => exact ⟨po, kvs, by repeat' (first | exact List.Mem.head _ | apply List.Mem.tail), hpd, hpo, hkvs⟩
      case hl => (repeat' (first | exact List.Mem.head _ | apply List.Mem.tail))
      case hF => exact Fields.mono hFl (by intro p9 hp9; repeat' (first | exact hp9 | apply List.Mem.tail))
      case w1 =>
        intro ho D9 r1 r2 r3 r4 r5 r6 k9 h9 tk9 l9 F9 N9
        rcases hx4 with ⟨h0, rfl, rfl, rfl⟩ | ⟨h0, h1, h2⟩ | ⟨h0, h1, h2⟩
        · rw [hsz9] at N9
          have arm16 := Armed.on 16
          k_steps
          refine Hold.of ?_
          rename News _ _ _ _ => N10
          refine' eq_rows ?N1 ?a1 ?b1 ?u1 ?R1 ?_
          case N1 => exact N10
          case a1 => (repeat' (first | exact List.Mem.head _ | apply List.Mem.tail))
          case b1 => exact List.Mem.head _
          case u1 => (simp only [units_under_make, units_in1, units_deeper, Around.mark_units, units_caller]; decide)
          case R1 => exact .cons (eqAt_bytes _ _ _) (.cons (eqAt_bytes _ _ _) (.cons (PySem.SeqAt.EqAt.same _) (.cons (eqAt_opt _ _ _) (.cons (eqAt_opt _ _ _) (.cons (eqAt_bytes _ _ _) (.cons (eqAt_int _ _ _) .nil))))))
          k_steps
        · exact absurd (ho.symm.trans h0) (by decide)
        · exact absurd (ho.symm.trans h0) (by decide)
      case w2 =>
        intro ho hsp D9 r1 r2 r3 r4 r5 r6 k9 h9 tk9 l9 F9 N9
        rcases hx4 with ⟨h0, h2⟩ | ⟨h0, h1, rfl, rfl, rfl⟩ | ⟨h0, h1, h2⟩
        · exact absurd (ho.symm.trans h0) (by decide)
        · rw [hsz9] at N9
          have arm16 := Armed.on 16
          k_steps
          refine Hold.of ?_
          rename News _ _ _ _ => N10
          refine' eq_rows ?N2 ?a2 ?b2 ?u2 ?R2 ?_
          case N2 => exact N10
          case a2 => (repeat' (first | exact List.Mem.head _ | apply List.Mem.tail))
          case b2 => exact List.Mem.head _
          case u2 => (simp only [units_under_make, units_in1, units_deeper, Around.mark_units, units_caller]; decide)
          case R2 => exact .cons (eqAt_bytes _ _ _) (.cons (eqAt_bytes _ _ _) (.cons (PySem.SeqAt.EqAt.same _) (.cons (eqAt_opt _ _ _) (.cons (eqAt_opt _ _ _) (.cons (eqAt_bytes _ _ _) (.cons (eqAt_int _ _ _) .nil))))))
          k_steps
        · exact absurd hsp h1
      case w3 =>
        intro ho hsp D9 PD9 vs9 r1 r2 r3 r4 r5 r6 k9 k9' h9 tk9 ll9 l9 l9' B9 F9 N9
        rcases hx4 with ⟨h0, h2⟩ | ⟨h0, h1, h2⟩ | ⟨h0, h1, rfl, rfl, rfl⟩
        · exact absurd (ho.symm.trans h0) (by decide)
        · exact absurd h1 hsp
        · rw [hsz9] at N9
          simp only [AllLt] at l9'
          have arm16 := Armed.on 16
          k_steps
          refine Hold.of ?_
          rename News _ _ _ _ => N10
          refine' eq_rows ?N3 ?a3 ?b3 ?u3 ?R3 ?_
          case N3 => exact N10
          case a3 => (repeat' (first | exact List.Mem.head _ | apply List.Mem.tail))
          case b3 => exact List.Mem.head _
          case u3 => (simp only [units_under_make, units_in1, units_deeper, Around.mark_units, units_caller]; decide)
          case R3 => exact .cons (eqAt_bytes _ _ _) (.cons (eqAt_bytes _ _ _) (.cons (eqAt_lists (Nat.ne_of_gt l9'.2.1) (N10.isList (by repeat' (first | exact List.Mem.head _ | apply List.Mem.tail))) (N10.isList (by repeat' (first | exact List.Mem.head _ | apply List.Mem.tail))) B9 hI' (by simp only [units_under_make, units_in1, units_deeper, Around.mark_units, units_caller]; decide)) (.cons (eqAt_opt _ _ _) (.cons (eqAt_opt _ _ _) (.cons (eqAt_bytes _ _ _) (.cons (eqAt_int _ _ _) .nil))))))
          k_steps
)
end Mine

theorem PySem.Challenge.cw_or0047_01_holds : PySem.Challenge.rw_or0047_01.Holds :=
  Mine.law_holds

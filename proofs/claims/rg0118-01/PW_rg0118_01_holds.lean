import PyProof.Rows.All
import Wide.All
import OpenK.AllK
import Wide.FinOn
import Lean
import PySem.Challenge.RW_rg0118_01
set_option Elab.async false
set_option linter.unusedSimpArgs false
set_option linter.unusedVariables false
set_option maxRecDepth 100000
open PySem PySem.W PySem.Spec PySem.Calls PyProof.Rows
set_option compiler.extract_closed false
namespace Mine
section
set_option maxHeartbeats 8000000
def pick : List Stmt → List Stmt
  | [a0, a1, a2, a3, a4, a5, a6, a7, a8, a9, a10, a11, a12, a13, a14, a15, a16, a17, a18, a19, a20, a21, a22, a23, a24, a25, a26] => [a0, a2, a3, a5, a6, a7, a8, a9, a11, a12, a13, a14, a16, a18, a20, a21, a22, a23, a24, a25, a26]
  | _ => []
abbrev PW : Program := PySem.Challenge.pw_rg0118_01
noncomputable def vw : Program := { PW with main := { PW.main with body := pick PW.main.body } }
noncomputable abbrev hdEnv : Env := { scope := PW.main.scope, locals := mainNs, globals := mainNs, cells := [], code := .ref 13, frame := some 14 }
abbrev pos0 : Pos := ⟨0, 0, 0, 0⟩
abbrev hdB : List Frame := [topFrame pos0]
noncomputable abbrev hdC : Code := .body (behindTheImports PW) hdEnv
def hd11 : Obj := { cls := .type "tuple", data := .seq #[] }
def hd12 : Obj := { cls := .none, data := .fields #[] }
def hd13 : Obj := { cls := .type "code", data := .fields #[.str (Str.ofString "<module>") 182, .str (Str.ofString "<module>") 183, .str (Str.ofString "/claim/cut.py") 184, .int 1 0, .int 0 0, .int 0 0, .int 0 0, .int 0 0, .ref 11, .bool false, .int 181 0, .ref 12, .none, .none, .none, .none, .int 185 0, .int 1 0, .str (Str.ofString "/claim/cut.py") 186] }
def hd14 : Obj := { cls := .type "frame", slots := #[some (.ref 13), some (.ref 3), some (.ref 3), none, some (.str (Str.ofString "__main__") 164), none, some (.ref 0)] }
noncomputable def hdA (P : Params) (os : OsState) : Shared := ⟨⟨#[boot_o_0 P, boot_o_1 P, boot_o_2 P, boot_o_3 P, boot_o_4 P, boot_o_5 P, boot_o_6 P, boot_o_7 P, boot_o_8 P, boot_o_9 P, boot_o_10 P, hd11, hd12, hd13, hd14], {}⟩, #[], {}, 187, os⟩
noncomputable def hdT (P : Params) (os : OsState) : SharedT := ⟨(((((((((((((((BT.nil.ins 0 (boot_o_0 P)).ins 1 (boot_o_1 P)).ins 2 (boot_o_2 P)).ins 3 (boot_o_3 P)).ins 4 (boot_o_4 P)).ins 5 (boot_o_5 P)).ins 6 (boot_o_6 P)).ins 7 (boot_o_7 P)).ins 8 (boot_o_8 P)).ins 9 (boot_o_9 P)).ins 10 (boot_o_10 P)).ins 11 hd11).ins 12 hd12).ins 13 hd13).ins 14 hd14), 15, {}, #[], {}, 187, os⟩
theorem hd_pre : ∀ w : World, (fun os : OsState => topGo treeTable PW w 11 (some (.ref 6)) 12 ⟨boot_heap w.params, #[], boot_drawn, boot_toks, os⟩ (topStub PW)) =
    fun os => some (hdA w.params os, ⟨denote treeTable hdC, hdC, pos0, hdB⟩) := by
  intro w; kernel_rfl
theorem hd_block : ∀ w : World, (fun os : OsState => segRun treeTable PW w 11 (some (.ref 6)) 1 1 (hdA w.params os) (blockOf (behindTheImports PW) hdEnv hdC pos0 hdB)) =
    fun os => some (Flow.next, (hdT w.params os).abs, hdC, pos0) := by
  intro w; kernel_rfl
theorem hd_fin (w : World) (s : Shared) (q : Pos) : topRun treeTable PW w 11 (some (.ref 6)) 2 s (restOf [] hdEnv hdC q hdB) = some s := by
  cases s; rfl
theorem hd_size : ∀ w : World, ((boot_heap w.params).isNs mainGlobals && (#[] : Array GenState).size == 0, (boot_heap w.params).objs.size, (boot_heap w.params).nsMap mainGlobals "__annotations__") = (true, 11, some (.ref 6)) := by
  intro w; kernel_rfl
theorem hd_open : opening PW = plainProg PW.main.scope.names := by kernel_rfl
theorem hide0 {G : Prop} (h : ∀ gk : Prop, (G → gk) → gk) : G := h G id
theorem left_tree {q : Program} {loose : List Str} {Xt : Shared → Bool} {α : Type} {Yf : Shared → α} {Ya : World → α} {pE : Pos}
    (h : ∀ w : World, (fun os : OsState => (segRunT treeTable PW w 11 (some (.ref 6)) 1 2900 (hdT w.params os) (piecesOf (behindTheImports PW) hdEnv hdC pos0 hdB)).map fun r =>
      (r.1, r.2.2, (staticsOk (importedModules PW.main.body) (boot_heap w.params) r.2.1.abs.heap && namesBound PW r.2.1.abs.heap && gensDone r.2.1.abs && laidKept (boot_heap w.params) r.2.1.abs.heap),
        openSeen q loose (importedModules PW.main.body) Xt true r.2.1.abs, Yf r.2.1.abs)) = fun _ => some (Flow.next, (hdC, pE), true, openGood q loose, Ya w)) : LeftO PW q loose Xt Yf Ya 5888 := fun w => by
  refine hide0 ?_
  intro gk hg
  obtain ⟨⟨hp, gs, d, k, os⟩, e, e'⟩ := Option.map_eq_some_iff.mp (boot_open (p := PW) (N := 5888) hd_open (by decide) (fun _ => rfl) w)
  simp only [Prod.mk.injEq] at e'
  obtain ⟨rfl, rfl, rfl, rfl⟩ := e'
  obtain ⟨r, hr, hr'⟩ := Option.map_eq_some_iff.mp (congrFun (h w) os)
  obtain ⟨f, sT, c, pos⟩ := r
  simp only [Prod.mk.injEq] at hr'
  obtain ⟨rfl, ⟨rfl, rfl⟩, hs, ho, hy⟩ := hr'
  have a := piece_app (rest := []) (segRun_of hr) (hd_fin w _ _)
  rw [List.append_nil] at a
  have b := piece_block (congrFun (hd_block w) os) a
  have g := go_top (congrFun (hd_pre w) os) b
  have m := topRun_mono (5888 - 2915) _ _ _ _ g
  obtain ⟨z1, z2, z3⟩ : _ ∧ _ ∧ _ := by simpa only [Prod.mk.injEq] using hd_size w
  have t : topFrom treeTable PW w 5888 ⟨boot_heap w.params, #[], boot_drawn, boot_toks, os⟩ = some sT.abs := by
    unfold topFrom
    dsimp only
    rw [z1, z2, z3]
    have m' : topRun treeTable PW w 11 (some (.ref 6)) 5888 ⟨boot_heap w.params, #[], boot_drawn, boot_toks, os⟩ (topStub PW) = some sT.abs := m
    rw [m']
    show (match staticsOk (importedModules PW.main.body) (boot_heap w.params) sT.abs.heap && namesBound PW sT.abs.heap && gensDone sT.abs && laidKept (boot_heap w.params) sT.abs.heap with | true => _ | false => _) = _
    rw [hs]
  refine hg ?_
  clear hg
  unfold openEnds
  rw [e]
  show (topFrom treeTable PW w 5888 _).map _ = _
  rw [t]
  exact congrArg some (Prod.ext ho hy)
theorem my_open {H : Hook} {d : DefRec} {kwd : List (Str × Expr)} (said : (OpenLaw.row PySem.Challenge.rw_rg0118_01).wellSaid = true)
    (h : ∀ w : World, (fun os : OsState => (segRunT treeTable PW w 11 (some (.ref 6)) 1 2900 (hdT w.params os) (piecesOf (behindTheImports PW) hdEnv hdC pos0 hdB)).map fun r =>
      (r.1, r.2.2, (staticsOk (importedModules PW.main.body) (boot_heap w.params) r.2.1.abs.heap && namesBound PW r.2.1.abs.heap && gensDone r.2.1.abs && laidKept (boot_heap w.params) r.2.1.abs.heap),
        openSeen vw [Str.ofString "_law_ends"] (importedModules PW.main.body) (fun s => xlAt vw [] s && recOk (RowW.records (OpenRow.toRowW (OpenLaw.row PySem.Challenge.rw_rg0118_01))) s) true r.2.1.abs, H.obs r.2.1.abs)) =
        fun _ => some (Flow.next, (hdC, ⟨273, 0, 296, 101⟩), true, openGood vw [Str.ofString "_law_ends"], H.val w))
    (hdef : defOf vw (Str.ofString "law") = some (d, kwd)) (hp : PW.theDef (Str.ofString "law") = some (d.params, d.body, d.scope)) (hk : kwWritten? d.params.kwonlyargs d.params.kw_defaults = some kwd)
    (hw : (OpenRow.toRowW (OpenLaw.row PySem.Challenge.rw_rg0118_01)).promised)
    (hc : WalkO vw [Str.ofString "_law_ends"] (XL vw []) H.says (OpenRow.toRowW (OpenLaw.row PySem.Challenge.rw_rg0118_01)) d kwd fun f vs => PySem.call f vs) : (OpenLaw.row PySem.Challenge.rw_rg0118_01).Holds :=
  holds_open (q := vw) (loose := [Str.ofString "_law_ends"]) (Xt := fun s => xlAt vw [] s && recOk (RowW.records (OpenRow.toRowW (OpenLaw.row PySem.Challenge.rw_rg0118_01))) s) (XP := XL vw []) (Yf := H.obs) (Ya := H.val) (YP := H.says) (N := 5888)
    (left_tree (pE := ⟨273, 0, 296, 101⟩) h) H.of H.keeps (fun s e => xl_of s (Bool.and_eq_true_iff.mp e).1) XL.keeps hdef hp hk (fun s e => recFacts_of (Bool.and_eq_true_iff.mp e).2)
    (by decide +kernel) said (by decide +kernel) (by with_unfolding_all exact ⟨rfl, rfl, rfl, rfl, rfl, by decide +kernel⟩) hw hc
theorem hd_said : OpenLaw.wellSaid PySem.Challenge.rw_rg0118_01 = true := by kernel_rfl
local macro_rules | `(tactic| o_law) => `(tactic| refine holds_law hd_said fun said => ?_)
local macro_rules | `(tactic| o_head $H) => `(tactic| (refine' my_open (H := $H) (by assumption) ?hl ?a1 ?a2 ?a3 ?hw ?hc; (case hl => intro w; kernel_rfl); (case a1 => with_unfolding_all rfl); (case a2 => with_unfolding_all rfl); (case a3 => with_unfolding_all rfl)))
open_top rgTop for PySem.Challenge.rw_rg0118_01
end
section
universe u1 u2 u3 u4 u5 u6 u7 u8 u9 u10 u11 u12 u13 u14 u15 u16 u17 u18
inductive Ex1 {α1 : Sort u1} (P : α1 → Prop) : Prop where
  | mk (a1 : α1) (h : P a1) : Ex1 P
inductive Ex2 {α1 : Sort u1} {α2 : Sort u2} (P : α1 → α2 → Prop) : Prop where
  | mk (a1 : α1) (a2 : α2) (h : P a1 a2) : Ex2 P
inductive Ex3 {α1 : Sort u1} {α2 : Sort u2} {α3 : Sort u3} (P : α1 → α2 → α3 → Prop) : Prop where
  | mk (a1 : α1) (a2 : α2) (a3 : α3) (h : P a1 a2 a3) : Ex3 P
inductive Ex4 {α1 : Sort u1} {α2 : Sort u2} {α3 : Sort u3} {α4 : Sort u4} (P : α1 → α2 → α3 → α4 → Prop) : Prop where
  | mk (a1 : α1) (a2 : α2) (a3 : α3) (a4 : α4) (h : P a1 a2 a3 a4) : Ex4 P
inductive Ex5 {α1 : Sort u1} {α2 : Sort u2} {α3 : Sort u3} {α4 : Sort u4} {α5 : Sort u5} (P : α1 → α2 → α3 → α4 → α5 → Prop) : Prop where
  | mk (a1 : α1) (a2 : α2) (a3 : α3) (a4 : α4) (a5 : α5) (h : P a1 a2 a3 a4 a5) : Ex5 P
inductive Ex6 {α1 : Sort u1} {α2 : Sort u2} {α3 : Sort u3} {α4 : Sort u4} {α5 : Sort u5} {α6 : Sort u6} (P : α1 → α2 → α3 → α4 → α5 → α6 → Prop) : Prop where
  | mk (a1 : α1) (a2 : α2) (a3 : α3) (a4 : α4) (a5 : α5) (a6 : α6) (h : P a1 a2 a3 a4 a5 a6) : Ex6 P
inductive Ex7 {α1 : Sort u1} {α2 : Sort u2} {α3 : Sort u3} {α4 : Sort u4} {α5 : Sort u5} {α6 : Sort u6} {α7 : Sort u7} (P : α1 → α2 → α3 → α4 → α5 → α6 → α7 → Prop) : Prop where
  | mk (a1 : α1) (a2 : α2) (a3 : α3) (a4 : α4) (a5 : α5) (a6 : α6) (a7 : α7) (h : P a1 a2 a3 a4 a5 a6 a7) : Ex7 P
inductive Ex8 {α1 : Sort u1} {α2 : Sort u2} {α3 : Sort u3} {α4 : Sort u4} {α5 : Sort u5} {α6 : Sort u6} {α7 : Sort u7} {α8 : Sort u8} (P : α1 → α2 → α3 → α4 → α5 → α6 → α7 → α8 → Prop) : Prop where
  | mk (a1 : α1) (a2 : α2) (a3 : α3) (a4 : α4) (a5 : α5) (a6 : α6) (a7 : α7) (a8 : α8) (h : P a1 a2 a3 a4 a5 a6 a7 a8) : Ex8 P
inductive Ex9 {α1 : Sort u1} {α2 : Sort u2} {α3 : Sort u3} {α4 : Sort u4} {α5 : Sort u5} {α6 : Sort u6} {α7 : Sort u7} {α8 : Sort u8} {α9 : Sort u9} (P : α1 → α2 → α3 → α4 → α5 → α6 → α7 → α8 → α9 → Prop) : Prop where
  | mk (a1 : α1) (a2 : α2) (a3 : α3) (a4 : α4) (a5 : α5) (a6 : α6) (a7 : α7) (a8 : α8) (a9 : α9) (h : P a1 a2 a3 a4 a5 a6 a7 a8 a9) : Ex9 P
inductive Ex10 {α1 : Sort u1} {α2 : Sort u2} {α3 : Sort u3} {α4 : Sort u4} {α5 : Sort u5} {α6 : Sort u6} {α7 : Sort u7} {α8 : Sort u8} {α9 : Sort u9} {α10 : Sort u10} (P : α1 → α2 → α3 → α4 → α5 → α6 → α7 → α8 → α9 → α10 → Prop) : Prop where
  | mk (a1 : α1) (a2 : α2) (a3 : α3) (a4 : α4) (a5 : α5) (a6 : α6) (a7 : α7) (a8 : α8) (a9 : α9) (a10 : α10) (h : P a1 a2 a3 a4 a5 a6 a7 a8 a9 a10) : Ex10 P
inductive Ex12 {α1 : Sort u1} {α2 : Sort u2} {α3 : Sort u3} {α4 : Sort u4} {α5 : Sort u5} {α6 : Sort u6} {α7 : Sort u7} {α8 : Sort u8} {α9 : Sort u9} {α10 : Sort u10} {α11 : Sort u11} {α12 : Sort u12} (P : α1 → α2 → α3 → α4 → α5 → α6 → α7 → α8 → α9 → α10 → α11 → α12 → Prop) : Prop where
  | mk (a1 : α1) (a2 : α2) (a3 : α3) (a4 : α4) (a5 : α5) (a6 : α6) (a7 : α7) (a8 : α8) (a9 : α9) (a10 : α10) (a11 : α11) (a12 : α12) (h : P a1 a2 a3 a4 a5 a6 a7 a8 a9 a10 a11 a12) : Ex12 P
inductive Ex13 {α1 : Sort u1} {α2 : Sort u2} {α3 : Sort u3} {α4 : Sort u4} {α5 : Sort u5} {α6 : Sort u6} {α7 : Sort u7} {α8 : Sort u8} {α9 : Sort u9} {α10 : Sort u10} {α11 : Sort u11} {α12 : Sort u12} {α13 : Sort u13} (P : α1 → α2 → α3 → α4 → α5 → α6 → α7 → α8 → α9 → α10 → α11 → α12 → α13 → Prop) : Prop where
  | mk (a1 : α1) (a2 : α2) (a3 : α3) (a4 : α4) (a5 : α5) (a6 : α6) (a7 : α7) (a8 : α8) (a9 : α9) (a10 : α10) (a11 : α11) (a12 : α12) (a13 : α13) (h : P a1 a2 a3 a4 a5 a6 a7 a8 a9 a10 a11 a12 a13) : Ex13 P
inductive Ex16 {α1 : Sort u1} {α2 : Sort u2} {α3 : Sort u3} {α4 : Sort u4} {α5 : Sort u5} {α6 : Sort u6} {α7 : Sort u7} {α8 : Sort u8} {α9 : Sort u9} {α10 : Sort u10} {α11 : Sort u11} {α12 : Sort u12} {α13 : Sort u13} {α14 : Sort u14} {α15 : Sort u15} {α16 : Sort u16} (P : α1 → α2 → α3 → α4 → α5 → α6 → α7 → α8 → α9 → α10 → α11 → α12 → α13 → α14 → α15 → α16 → Prop) : Prop where
  | mk (a1 : α1) (a2 : α2) (a3 : α3) (a4 : α4) (a5 : α5) (a6 : α6) (a7 : α7) (a8 : α8) (a9 : α9) (a10 : α10) (a11 : α11) (a12 : α12) (a13 : α13) (a14 : α14) (a15 : α15) (a16 : α16) (h : P a1 a2 a3 a4 a5 a6 a7 a8 a9 a10 a11 a12 a13 a14 a15 a16) : Ex16 P
inductive Ex17 {α1 : Sort u1} {α2 : Sort u2} {α3 : Sort u3} {α4 : Sort u4} {α5 : Sort u5} {α6 : Sort u6} {α7 : Sort u7} {α8 : Sort u8} {α9 : Sort u9} {α10 : Sort u10} {α11 : Sort u11} {α12 : Sort u12} {α13 : Sort u13} {α14 : Sort u14} {α15 : Sort u15} {α16 : Sort u16} {α17 : Sort u17} (P : α1 → α2 → α3 → α4 → α5 → α6 → α7 → α8 → α9 → α10 → α11 → α12 → α13 → α14 → α15 → α16 → α17 → Prop) : Prop where
  | mk (a1 : α1) (a2 : α2) (a3 : α3) (a4 : α4) (a5 : α5) (a6 : α6) (a7 : α7) (a8 : α8) (a9 : α9) (a10 : α10) (a11 : α11) (a12 : α12) (a13 : α13) (a14 : α14) (a15 : α15) (a16 : α16) (a17 : α17) (h : P a1 a2 a3 a4 a5 a6 a7 a8 a9 a10 a11 a12 a13 a14 a15 a16 a17) : Ex17 P
inductive And2 (p1 p2 : Prop) : Prop where
  | mk (h1 : p1) (h2 : p2) : And2 p1 p2
inductive And3 (p1 p2 p3 : Prop) : Prop where
  | mk (h1 : p1) (h2 : p2) (h3 : p3) : And3 p1 p2 p3
inductive And4 (p1 p2 p3 p4 : Prop) : Prop where
  | mk (h1 : p1) (h2 : p2) (h3 : p3) (h4 : p4) : And4 p1 p2 p3 p4
inductive And5 (p1 p2 p3 p4 p5 : Prop) : Prop where
  | mk (h1 : p1) (h2 : p2) (h3 : p3) (h4 : p4) (h5 : p5) : And5 p1 p2 p3 p4 p5
inductive And6 (p1 p2 p3 p4 p5 p6 : Prop) : Prop where
  | mk (h1 : p1) (h2 : p2) (h3 : p3) (h4 : p4) (h5 : p5) (h6 : p6) : And6 p1 p2 p3 p4 p5 p6
inductive And7 (p1 p2 p3 p4 p5 p6 p7 : Prop) : Prop where
  | mk (h1 : p1) (h2 : p2) (h3 : p3) (h4 : p4) (h5 : p5) (h6 : p6) (h7 : p7) : And7 p1 p2 p3 p4 p5 p6 p7
inductive And8 (p1 p2 p3 p4 p5 p6 p7 p8 : Prop) : Prop where
  | mk (h1 : p1) (h2 : p2) (h3 : p3) (h4 : p4) (h5 : p5) (h6 : p6) (h7 : p7) (h8 : p8) : And8 p1 p2 p3 p4 p5 p6 p7 p8
inductive And9 (p1 p2 p3 p4 p5 p6 p7 p8 p9 : Prop) : Prop where
  | mk (h1 : p1) (h2 : p2) (h3 : p3) (h4 : p4) (h5 : p5) (h6 : p6) (h7 : p7) (h8 : p8) (h9 : p9) : And9 p1 p2 p3 p4 p5 p6 p7 p8 p9
inductive And10 (p1 p2 p3 p4 p5 p6 p7 p8 p9 p10 : Prop) : Prop where
  | mk (h1 : p1) (h2 : p2) (h3 : p3) (h4 : p4) (h5 : p5) (h6 : p6) (h7 : p7) (h8 : p8) (h9 : p9) (h10 : p10) : And10 p1 p2 p3 p4 p5 p6 p7 p8 p9 p10
inductive And11 (p1 p2 p3 p4 p5 p6 p7 p8 p9 p10 p11 : Prop) : Prop where
  | mk (h1 : p1) (h2 : p2) (h3 : p3) (h4 : p4) (h5 : p5) (h6 : p6) (h7 : p7) (h8 : p8) (h9 : p9) (h10 : p10) (h11 : p11) : And11 p1 p2 p3 p4 p5 p6 p7 p8 p9 p10 p11
inductive And12 (p1 p2 p3 p4 p5 p6 p7 p8 p9 p10 p11 p12 : Prop) : Prop where
  | mk (h1 : p1) (h2 : p2) (h3 : p3) (h4 : p4) (h5 : p5) (h6 : p6) (h7 : p7) (h8 : p8) (h9 : p9) (h10 : p10) (h11 : p11) (h12 : p12) : And12 p1 p2 p3 p4 p5 p6 p7 p8 p9 p10 p11 p12
inductive And15 (p1 p2 p3 p4 p5 p6 p7 p8 p9 p10 p11 p12 p13 p14 p15 : Prop) : Prop where
  | mk (h1 : p1) (h2 : p2) (h3 : p3) (h4 : p4) (h5 : p5) (h6 : p6) (h7 : p7) (h8 : p8) (h9 : p9) (h10 : p10) (h11 : p11) (h12 : p12) (h13 : p13) (h14 : p14) (h15 : p15) : And15 p1 p2 p3 p4 p5 p6 p7 p8 p9 p10 p11 p12 p13 p14 p15
inductive And16 (p1 p2 p3 p4 p5 p6 p7 p8 p9 p10 p11 p12 p13 p14 p15 p16 : Prop) : Prop where
  | mk (h1 : p1) (h2 : p2) (h3 : p3) (h4 : p4) (h5 : p5) (h6 : p6) (h7 : p7) (h8 : p8) (h9 : p9) (h10 : p10) (h11 : p11) (h12 : p12) (h13 : p13) (h14 : p14) (h15 : p15) (h16 : p16) : And16 p1 p2 p3 p4 p5 p6 p7 p8 p9 p10 p11 p12 p13 p14 p15 p16
inductive And17 (p1 p2 p3 p4 p5 p6 p7 p8 p9 p10 p11 p12 p13 p14 p15 p16 p17 : Prop) : Prop where
  | mk (h1 : p1) (h2 : p2) (h3 : p3) (h4 : p4) (h5 : p5) (h6 : p6) (h7 : p7) (h8 : p8) (h9 : p9) (h10 : p10) (h11 : p11) (h12 : p12) (h13 : p13) (h14 : p14) (h15 : p15) (h16 : p16) (h17 : p17) : And17 p1 p2 p3 p4 p5 p6 p7 p8 p9 p10 p11 p12 p13 p14 p15 p16 p17
inductive And18 (p1 p2 p3 p4 p5 p6 p7 p8 p9 p10 p11 p12 p13 p14 p15 p16 p17 p18 : Prop) : Prop where
  | mk (h1 : p1) (h2 : p2) (h3 : p3) (h4 : p4) (h5 : p5) (h6 : p6) (h7 : p7) (h8 : p8) (h9 : p9) (h10 : p10) (h11 : p11) (h12 : p12) (h13 : p13) (h14 : p14) (h15 : p15) (h16 : p16) (h17 : p17) (h18 : p18) : And18 p1 p2 p3 p4 p5 p6 p7 p8 p9 p10 p11 p12 p13 p14 p15 p16 p17 p18
inductive And20 (p1 p2 p3 p4 p5 p6 p7 p8 p9 p10 p11 p12 p13 p14 p15 p16 p17 p18 p19 p20 : Prop) : Prop where
  | mk (h1 : p1) (h2 : p2) (h3 : p3) (h4 : p4) (h5 : p5) (h6 : p6) (h7 : p7) (h8 : p8) (h9 : p9) (h10 : p10) (h11 : p11) (h12 : p12) (h13 : p13) (h14 : p14) (h15 : p15) (h16 : p16) (h17 : p17) (h18 : p18) (h19 : p19) (h20 : p20) : And20 p1 p2 p3 p4 p5 p6 p7 p8 p9 p10 p11 p12 p13 p14 p15 p16 p17 p18 p19 p20
inductive And21 (p1 p2 p3 p4 p5 p6 p7 p8 p9 p10 p11 p12 p13 p14 p15 p16 p17 p18 p19 p20 p21 : Prop) : Prop where
  | mk (h1 : p1) (h2 : p2) (h3 : p3) (h4 : p4) (h5 : p5) (h6 : p6) (h7 : p7) (h8 : p8) (h9 : p9) (h10 : p10) (h11 : p11) (h12 : p12) (h13 : p13) (h14 : p14) (h15 : p15) (h16 : p16) (h17 : p17) (h18 : p18) (h19 : p19) (h20 : p20) (h21 : p21) : And21 p1 p2 p3 p4 p5 p6 p7 p8 p9 p10 p11 p12 p13 p14 p15 p16 p17 p18 p19 p20 p21
theorem fcons {α : Type} {p : α → Prop} {a : α} {l : List α} (h : p a) (t : ∀ x ∈ l, p x) : ∀ x ∈ a :: l, p x := by
  intro x hx
  cases hx with
  | head => exact h
  | tail _ hx => exact t x hx
theorem fapp {α : Type} {p : α → Prop} {l k : List α} (h : ∀ x ∈ l, p x) (t : ∀ x ∈ k, p x) : ∀ x ∈ l ++ k, p x := by
  intro x hx
  rcases List.mem_append.mp hx with hx | hx
  · exact h x hx
  · exact t x hx
theorem two9 : ∀ {i : Nat}, i < 2 → i = 0 ∨ i = 1
  | 0, _ => .inl rfl
  | 1, _ => .inr rfl
theorem three9 : ∀ {i : Nat}, i ≤ 2 → i = 0 ∨ i = 1 ∨ i = 2
  | 0, _ => .inl rfl
  | 1, _ => .inr (.inl rfl)
  | 2, _ => .inr (.inr rfl)
theorem rm0 {d b c : Nat} (h : d + b < c) : d < c := Nat.lt_of_le_of_lt (Nat.le_add_right d b) h
theorem rm1 {d a b c : Nat} (h : d + b < c) (k : Nat.ble a b = true) : d + a < c := Nat.lt_of_le_of_lt (Nat.add_le_add_left (Nat.le_of_ble_eq_true k) d) h
theorem rm2 {d a1 a b c : Nat} (h : d + b < c) (k : Nat.ble (a1 + a) b = true) : d + a1 + a < c := by rw [Nat.add_assoc]; exact rm1 h k
theorem rm3 {d a2 a1 a b c : Nat} (h : d + b < c) (k : Nat.ble (a2 + (a1 + a)) b = true) : d + a2 + a1 + a < c := by rw [Nat.add_assoc, Nat.add_assoc, ← Nat.add_assoc a2]; exact rm1 h (by rw [Nat.add_assoc]; exact k)
theorem rm4 {d a3 a2 a1 a b c : Nat} (h : d + b < c) (k : Nat.ble (a3 + (a2 + (a1 + a))) b = true) : d + a3 + a2 + a1 + a < c := by
  rw [Nat.add_assoc, Nat.add_assoc, Nat.add_assoc]; exact rm1 h k
theorem rz1 {d x a' a k c : Nat} (h : d + (4 * a + k) < c) (s : a' < a) (q : Nat.ble x 4 = true) : d + x + (4 * a' + k) < c := by
  have h2 : x + (4 * a' + k) ≤ 4 * a + k := by
    rw [← Nat.add_assoc]; exact Nat.add_le_add_right (Nat.le_trans (Nat.add_le_add_right (Nat.le_of_ble_eq_true q) _) (Nat.add_comm 4 (4 * a') ▸ Nat.mul_le_mul_left 4 s)) k
  rw [Nat.add_assoc]; exact Nat.lt_of_le_of_lt (Nat.add_le_add_left h2 d) h
theorem rz2 {d x a' a k c : Nat} (h : d + 8 * (4 * a + k) < c) (s : a' < a) (q : Nat.ble x 32 = true) : d + x + 8 * (4 * a' + k) < c := by
  have h1 : 4 * a' + k + 4 ≤ 4 * a + k := by
    rw [Nat.add_right_comm]; exact Nat.add_le_add_right (Nat.mul_le_mul_left 4 s) k
  have h3 := Nat.mul_le_mul_left 8 h1
  rw [Nat.mul_add, Nat.add_comm] at h3
  rw [Nat.add_assoc]; exact Nat.lt_of_le_of_lt (Nat.add_le_add_left (Nat.le_trans (Nat.add_le_add_right (Nat.le_of_ble_eq_true q) _) h3) d) h
theorem rz3 {d x a e b k c : Nat} (h : d + b < c) (s : a ≤ e) (q : Nat.ble (x + (4 * e + k)) b = true) : d + x + (4 * a + k) < c := by
  rw [Nat.add_assoc]; exact Nat.lt_of_le_of_lt (Nat.add_le_add_left (Nat.le_trans (Nat.add_le_add_left (Nat.add_le_add_right (Nat.mul_le_mul_left 4 s) k) x) (Nat.le_of_ble_eq_true q)) d) h
theorem rz4 {d x a e b k c : Nat} (h : d + b < c) (s : a ≤ e) (q : Nat.ble (x + 8 * (4 * e + k)) b = true) : d + x + 8 * (4 * a + k) < c := by
  rw [Nat.add_assoc]; exact Nat.lt_of_le_of_lt (Nat.add_le_add_left (Nat.le_trans (Nat.add_le_add_left (Nat.mul_le_mul_left 8 (Nat.add_le_add_right (Nat.mul_le_mul_left 4 s) k)) x) (Nat.le_of_ble_eq_true q)) d) h
theorem le9 {n a b : Nat} (h : n ≤ a) (k : Nat.ble a b = true) : n ≤ b := Nat.le_trans h (Nat.le_of_ble_eq_true k)
theorem le9a {n x a b : Nat} (h : n ≤ a) (k : Nat.ble (a + x) b = true) : n + x ≤ b := Nat.le_trans (Nat.add_le_add_right h x) (Nat.le_of_ble_eq_true k)
theorem le9e {n m a b : Nat} (e : n = m) (h : m ≤ a) (k : Nat.ble a b = true) : n ≤ b := e ▸ le9 h k
theorem le9ea {n m x a b : Nat} (e : n = m) (h : m ≤ a) (k : Nat.ble (a + x) b = true) : n + x ≤ b := e ▸ le9a h k
theorem lt9 {n a b : Nat} (h : n ≤ a) (k : Nat.blt a b = true) : n < b := Nat.lt_of_le_of_lt h (Nat.le_of_ble_eq_true k)
theorem lt9e {n m a b : Nat} (e : n = m) (h : m ≤ a) (k : Nat.blt a b = true) : n < b := e ▸ lt9 h k
theorem lt9l {n a b : Nat} (h : n < a) (k : Nat.ble a b = true) : n < b := Nat.lt_of_lt_of_le h (Nat.le_of_ble_eq_true k)
theorem lt9le {i n m : Nat} (h : i < n) (e : m = n) : i < m := e ▸ h
theorem lt9le2 {i n m : Nat} (h : i < n) (e : n = m) : i < m := e ▸ h
theorem lelt9 {n a b : Nat} (h : n < a) (k : Nat.ble a (b + 1) = true) : n ≤ b := Nat.le_of_lt_succ (lt9l h k)
theorem nea9 {b i j : Nat} (k : Nat.beq i j = false) : b + i ≠ b + j := fun e => by have := Nat.add_left_cancel e; subst this; rw [Nat.beq_refl] at k; cases k
theorem nea9r {b j : Nat} (k : Nat.beq 0 j = false) : b ≠ b + j := fun e => nea9 (b := b) (i := 0) k e
theorem nea9l {b j : Nat} (k : Nat.beq j 0 = false) : b + j ≠ b := fun e => nea9 (b := b) (j := 0) k e
theorem cj1 {a b : Prop} (h : a ∧ b) : a := h.1
theorem cj2 {x a b : Prop} (h : x ∧ a ∧ b) : a := h.2.1
theorem cj3 {x y a b : Prop} (h : x ∧ y ∧ a ∧ b) : a := h.2.2.1
theorem cj4 {x y z a b : Prop} (h : x ∧ y ∧ z ∧ a ∧ b) : a := h.2.2.2.1
theorem cj5 {x y z u a b : Prop} (h : x ∧ y ∧ z ∧ u ∧ a ∧ b) : a := h.2.2.2.2.1
theorem cj6 {x y z u v a b : Prop} (h : x ∧ y ∧ z ∧ u ∧ v ∧ a ∧ b) : a := h.2.2.2.2.2.1
theorem cj7 {x y z u v p a b : Prop} (h : x ∧ y ∧ z ∧ u ∧ v ∧ p ∧ a ∧ b) : a := h.2.2.2.2.2.2.1
theorem cj8 {x y z u v p q a b : Prop} (h : x ∧ y ∧ z ∧ u ∧ v ∧ p ∧ q ∧ a ∧ b) : a := h.2.2.2.2.2.2.2.1
theorem cj9 {x y z u v p q r a b : Prop} (h : x ∧ y ∧ z ∧ u ∧ v ∧ p ∧ q ∧ r ∧ a ∧ b) : a := h.2.2.2.2.2.2.2.2.1
theorem ce2 {x a : Prop} (h : x ∧ a) : a := h.2
theorem ce3 {x y a : Prop} (h : x ∧ y ∧ a) : a := h.2.2
theorem ce4 {x y z a : Prop} (h : x ∧ y ∧ z ∧ a) : a := h.2.2.2
theorem ce5 {x y z u a : Prop} (h : x ∧ y ∧ z ∧ u ∧ a) : a := h.2.2.2.2
theorem ce6 {x y z u v a : Prop} (h : x ∧ y ∧ z ∧ u ∧ v ∧ a) : a := h.2.2.2.2.2
theorem rz5 {d a k x y c : Nat} (h : d + (4 * a + k) < c) (q : Nat.ble (x + y) k = true) : d + x + y < c := by
  rw [Nat.add_assoc]; exact Nat.lt_of_le_of_lt (Nat.add_le_add_left (Nat.le_trans (Nat.le_of_ble_eq_true q) (Nat.le_add_left k (4 * a))) d) h
theorem rz6 {d a k x y c : Nat} (h : d + 8 * (4 * a + k) < c) (q : Nat.ble (x + y) (8 * k) = true) : d + x + y < c := by
  rw [Nat.add_assoc]; exact Nat.lt_of_le_of_lt (Nat.add_le_add_left (Nat.le_trans (Nat.le_of_ble_eq_true q) (Nat.mul_le_mul_left 8 (Nat.le_add_left k (4 * a)))) d) h
theorem rk1 {x a e k c : Nat} (h : a ≤ e) (q : Nat.blt (x + (4 * e + k)) c = true) : x + (4 * a + k) < c :=
  Nat.lt_of_le_of_lt (Nat.add_le_add_left (Nat.add_le_add_right (Nat.mul_le_mul_left 4 h) k) x) (Nat.le_of_ble_eq_true q)
theorem rk2 {x a e k c : Nat} (h : a ≤ e) (q : Nat.blt (x + 8 * (4 * e + k)) c = true) : x + 8 * (4 * a + k) < c :=
  Nat.lt_of_le_of_lt (Nat.add_le_add_left (Nat.mul_le_mul_left 8 (Nat.add_le_add_right (Nat.mul_le_mul_left 4 h) k)) x) (Nat.le_of_ble_eq_true q)
theorem sl9 {n i : Nat} (h : i < n) : n - (i + 1) < n - i := Nat.sub_lt_sub_left h (Nat.lt_succ_self i)
theorem se9 {n i k : Nat} (h : n - i = k + 1) : n - (i + 1) = k := by rw [Nat.sub_succ, h]; rfl
theorem se0 {n i : Nat} (h : n - i = 0) (h2 : i ≤ n) : i = n := Nat.le_antisymm h2 (Nat.le_of_sub_eq_zero h)
theorem lel9 {c n a b : Nat} (h : c < n) (h2 : n ≤ a) (k : Nat.ble a b = true) : c ≤ b := Nat.le_of_lt (Nat.lt_of_lt_of_le h (Nat.le_trans h2 (Nat.le_of_ble_eq_true k)))
theorem le9t {x y a b : Nat} (h : x ≤ y) (h2 : y ≤ a) (k : Nat.ble a b = true) : x ≤ b := Nat.le_trans h (le9 h2 k)
theorem le9et {x y z a b : Nat} (e : x = y) (h : y ≤ z) (h2 : z ≤ a) (k : Nat.ble a b = true) : x ≤ b := e ▸ le9t h h2 k
theorem lel9t {x i n a b : Nat} (h : x ≤ i) (h1 : i < n) (h2 : n ≤ a) (k : Nat.ble a b = true) : x ≤ b := Nat.le_trans h (lel9 h1 h2 k)
theorem min9l {x y a b : Nat} (h : x ≤ a) (k : Nat.ble a b = true) : min x y ≤ b := Nat.le_trans (Nat.min_le_left _ _) (le9 h k)
theorem add9 {x y a b c : Nat} (h : x ≤ a) (h2 : y ≤ b) (k : Nat.ble (a + b) c = true) : x + y ≤ c := Nat.le_trans (Nat.add_le_add h h2) (Nat.le_of_ble_eq_true k)
theorem fm9 {x y n : Nat} (h : y ≤ 5 * n) (h2 : x ≤ 5) : x + y ≤ 5 * (n + 1) := Nat.add_comm y x ▸ Nat.add_le_add h h2
theorem sn9 {i n : Nat} (h : ¬ i < n) (h2 : i - n = 0) : i = n := Nat.le_antisymm (Nat.le_of_sub_eq_zero h2) (Nat.not_lt.mp h)
theorem sl9s {n i : Nat} (h : i < n) : n + 1 - (i + 1) < n + 1 - i := sl9 (Nat.lt_succ_of_lt h)
theorem ic9 {c n m : Nat} (h : c < n) (e : m = n) : (c : Int) < (m : Int) := Int.ofNat_lt.mpr (e ▸ h)
theorem add9m {x y z a b c : Nat} (h : x ≤ a) (h2 : z ≤ b) (k : Nat.ble (a + b) c = true) : x + min y z ≤ c := add9 h (Nat.le_trans (Nat.min_le_right _ _) h2) k
theorem add9e {x w y z a b c : Nat} (h : x ≤ a) (e : w = min y z) (h2 : z ≤ b) (k : Nat.ble (a + b) c = true) : x + w ≤ c := e ▸ add9m h h2 k
theorem cn9 {c n : Nat} (h : c < n + 1) (h2 : ¬ c = n) : c < n := Nat.lt_of_le_of_ne (Nat.le_of_lt_succ h) h2
theorem ci9 {c n : Nat} (h : ¬ c = n) : (c : Int) ≠ (n : Int) := fun e => h (Int.ofNat.inj e)
theorem ci9l {c n : Nat} (h : c < n) : (c : Int) ≠ (n : Int) := fun e => Nat.ne_of_lt h (Int.ofNat.inj e)
theorem ms9 {n s s' t t' : Nat} (h : s ≤ n) (e : s' + t = s + t') : n + t' - s' < n + (t + 1) - s := by omega
theorem ms8 {s s' t t' : Nat} (e : s' + t = s + t') : s' + 1 + t = s + (t' + 1) := by rw [Nat.add_right_comm, e]; rfl
theorem le9pk {x y z a b : Nat} (e : x = y) (h : y + z ≤ a) (k : Nat.ble a b = true) : x ≤ b := e ▸ le9 (Nat.le_trans (Nat.le_add_right _ _) h) k
theorem le9q {w x a b : Nat} (e : w + 1 = x) (h : x ≤ a) (k : Nat.ble a b = true) : w ≤ b := le9 (Nat.le_trans (Nat.le_add_right w 1) (e ▸ h)) k
theorem m5 {j b c : Nat} (k : Nat.ble (5 * b) c = true) : 5 * min j b ≤ c := Nat.le_trans (Nat.mul_le_mul_left 5 (Nat.min_le_right _ _)) (Nat.le_of_ble_eq_true k)
theorem m5l {j x a c : Nat} (h : j ≤ a) (k : Nat.ble (5 * a) c = true) : 5 * min j x ≤ c := Nat.le_trans (Nat.mul_le_mul_left 5 (Nat.le_trans (Nat.min_le_left _ _) h)) (Nat.le_of_ble_eq_true k)
theorem add9t {x y z a b c : Nat} (h : x ≤ a) (h2 : y ≤ z) (h3 : z ≤ b) (k : Nat.ble (a + b) c = true) : x + y ≤ c := add9 h (Nat.le_trans h2 h3) k
theorem add9s {x y z a b c : Nat} (h : x ≤ z) (h3 : z ≤ a) (h2 : y ≤ b) (k : Nat.ble (a + b) c = true) : x + y ≤ c := add9 (Nat.le_trans h h3) h2 k
theorem add9u {x y z v a b c : Nat} (h : x ≤ z) (h3 : z ≤ a) (h2 : y ≤ v) (h4 : v ≤ b) (k : Nat.ble (a + b) c = true) : x + y ≤ c := add9 (Nat.le_trans h h3) (Nat.le_trans h2 h4) k
theorem tt9 {a b n : Nat} (h : a < b) (h2 : b < n + 1) : a < n := Nat.lt_of_lt_of_le h (Nat.le_of_lt_succ h2)
theorem ig0 {k : Int} (h : 0 ≤ k) : 0 ≤ k + 1 := by omega
theorem ig00 {k : Int} (h : 0 ≤ k) : 0 ≤ k + 1 + 1 := by omega
theorem il0 {k a b : Int} (h : k < a) (q : a ≤ b) : k < b := Int.lt_of_lt_of_le h q
theorem il2 {k a b : Int} (h : k < a) (q : a + 1 + 1 ≤ b) : k + 1 + 1 < b := by omega
theorem il1 {k a b : Int} (h : k < a) (q : a + 1 ≤ b) : k + 1 < b := by omega
theorem ik2 {k : Int} : k ≤ k + 1 + 1 := by omega
theorem ik3 {k : Int} : k ≤ k + 1 + 1 + 1 := by omega
theorem ik23 {k : Int} : k + 1 + 1 ≤ k + 3 := by omega
theorem ik33 {k : Int} : k + 1 + 1 + 1 ≤ k + 3 := by omega
noncomputable abbrev PR : Program := PySem.Challenge.rw_rg0118_01.row.prog

noncomputable def Fn (w : World) (f : Addr) (sz : Nat) (vs : List Value) (news : List (Addr × Obj)) (Post : List (Addr × Obj) → Value → Prop) : Prop :=
  ∀ (loose : List Str) (mean : ExcName → Option Value) (mg mb : Str → Option Value) (dp un : Nat) (gd : Option (List Code)) (cn : Str) (cs : Scope) (a : Addr) (ccd : Value) (cl : List (Str × Addr)) (outer : List Env) (A₀ : Around) (base h₀ : Heap) (L : Addr) (m : Str → Option Value) (s : Shared)
    (Q E : Value → Shared → Prop),
    Below A₀ base outer h₀ → Fr h₀ L s.heap m → (rgTop.heap_1 w.params).In h₀ → News h₀ L s.heap news → Top vw loose mean mg mb h₀ → cs.kind = .function → dp + sz < recursionLimit → un + 8 * sz < cLine →
    (∀ r news' h' tk' dr', Fr h₀ L h' m → News h₀ L h' news' → Post news' r → Q r { s with heap := h', toks := tk', drawn := dr' }) →
    wpAny (model PySem.Challenge.rw_rg0118_01.row.prog w) (ktrTop dp un gd cn cs L a ccd cl outer) (call (.ref f) vs) Q E s

theorem Fn.use {w : World} {f : Addr} {sz : Nat} {vs : List Value} {news : List (Addr × Obj)} {Post : List (Addr × Obj) → Value → Prop} {loose : List Str} {mean : ExcName → Option Value} {mg mb : Str → Option Value} {dp un : Nat} {gd : Option (List Code)} {cn : Str} {cs : Scope} {a : Addr} {ccd : Value} {cl : List (Str × Addr)} {outer : List Env} {A₀ : Around} {base h₀ : Heap} {L : Addr} {m : Str → Option Value} {s : Shared}
    {Q E : Value → Shared → Prop} (C : Fn w f sz vs news Post) (B : Below A₀ base outer h₀) (F : Fr h₀ L s.heap m) (X : (rgTop.heap_1 w.params).In h₀) (N : News h₀ L s.heap news) (T : Top vw loose mean mg mb h₀) (hk : cs.kind = .function) (hd : dp + sz < recursionLimit) (hu : un + 8 * sz < cLine)
    (ret : ∀ r news' h' tk' dr', Fr h₀ L h' m → News h₀ L h' news' → Post news' r → Q r { s with heap := h', toks := tk', drawn := dr' }) :
    wpAny (model PySem.Challenge.rw_rg0118_01.row.prog w) (ktrTop dp un gd cn cs L a ccd cl outer) (call (.ref f) vs) Q E s :=
  C loose mean mg mb dp un gd cn cs a ccd cl outer A₀ base h₀ L m s Q E B F X N T hk hd hu ret

theorem Fn.useK {w : World} {f : Addr} {sz : Nat} {vs : List Value} {news : List (Addr × Obj)} {Post : List (Addr × Obj) → Value → Prop} {loose : List Str} {mean : ExcName → Option Value} {mg mb : Str → Option Value} {dp un : Nat} {gd : Option (List Code)} {cn : Str} {cs : Scope} {a : Addr} {ccd : Value} {cl : List (Str × Addr)} {outer : List Env} {A₀ : Around} {base h₀ : Heap} {L : Addr} {m : Str → Option Value} {s : Shared}
    {Q E : Value → Shared → Prop} (C : Fn w f sz vs news Post) (B : Below A₀ base outer h₀) (F : Fr h₀ L s.heap m) (X : (rgTop.heap_1 w.params).In h₀) (N : News h₀ L s.heap news) (T : Top vw loose mean mg mb h₀) (hk : cs.kind = .function) (hd : dp + sz < recursionLimit) (hu : un + 8 * sz < cLine)
    (ret : ∀ K : Value → Heap → Nat → Drawn → Prop, (∀ r h' tk' dr', Q r { s with heap := h', toks := tk', drawn := dr' } → K r h' tk' dr') → ∀ r news' h' tk' dr', Fr h₀ L h' m → News h₀ L h' news' → Post news' r → K r h' tk' dr') :
    wpAny (model PySem.Challenge.rw_rg0118_01.row.prog w) (ktrTop dp un gd cn cs L a ccd cl outer) (call (.ref f) vs) Q E s :=
  C.use B F X N T hk hd hu (ret (fun r h' tk' dr' => Q r { s with heap := h', toks := tk', drawn := dr' }) fun _ _ _ _ h => h)
theorem hide9 {G : Prop} (h : ∀ gk : Prop, (G → gk) → gk) : G := h G id

noncomputable def KF (_ : Frag) (_ : OpenLaw) : Prop := True

theorem News_sub {h₀ h : Heap} {L : Addr} {news news' : List (Addr × Obj)} (N : News h₀ L h news) (k : ∀ p ∈ news', p ∈ news) : News h₀ L h news' := fun p hp => N p (k p hp)

theorem News_rot1 {h₀ h : Heap} {L : Addr} {p u c : Addr × Obj} {r : List (Addr × Obj)} (N : News h₀ L h (p :: u :: c :: r)) : News h₀ L h (u :: c :: p :: r) := News_sub N (fcons (.tail _ (.head _)) (fcons (.tail _ (.tail _ (.head _))) (fcons (.head _) (fun q h => .tail _ (.tail _ (.tail _ h))))))
theorem News_rot2 {h₀ h : Heap} {L : Addr} {p p2 u c : Addr × Obj} {r : List (Addr × Obj)} (N : News h₀ L h (p :: p2 :: u :: c :: r)) : News h₀ L h (u :: c :: p :: p2 :: r) := News_sub N (fcons (.tail _ (.tail _ (.head _))) (fcons (.tail _ (.tail _ (.tail _ (.head _)))) (fcons (.head _) (fcons (.tail _ (.head _)) (fun q h => .tail _ (.tail _ (.tail _ (.tail _ h))))))))
theorem News_rot3 {h₀ h : Heap} {L : Addr} {p p2 p3 u c : Addr × Obj} {r : List (Addr × Obj)} (N : News h₀ L h (p :: p2 :: p3 :: u :: c :: r)) : News h₀ L h (u :: c :: p :: p2 :: p3 :: r) := News_sub N (fcons (.tail _ (.tail _ (.tail _ (.head _)))) (fcons (.tail _ (.tail _ (.tail _ (.tail _ (.head _))))) (fcons (.head _) (fcons (.tail _ (.head _)) (fcons (.tail _ (.tail _ (.head _))) (fun q h => .tail _ (.tail _ (.tail _ (.tail _ (.tail _ h))))))))))

noncomputable def SomeSrc (w : World) (sa : Addr) (vs : List Value) (news : List (Addr × Obj)) : Prop :=
  (∃ n, (sa, W.listOf vs.toArray n) ∈ news) ∨ (∀ h : Heap, (rgTop.heap_1 w.params).In h → h.IsList sa vs.toArray)

theorem SomeSrc.list {w : World} {sa : Addr} {vs : List Value} {news : List (Addr × Obj)} (S : SomeSrc w sa vs news) {h₀ h : Heap} {L : Addr} {m : Str → Option Value} (F : Fr h₀ L h m) (X : (rgTop.heap_1 w.params).In h₀) (N : News h₀ L h news) : h.IsList sa vs.toArray := by
  rcases S with ⟨n, hm⟩ | S
  · exact ⟨_, (N _ hm).1, rfl, n, rfl⟩
  · exact S h (X.keeps F.keep)
theorem SomeSrc.mono {w : World} {sa : Addr} {vs : List Value} {news news' : List (Addr × Obj)} (S : SomeSrc w sa vs news) (k : ∀ p ∈ news, p ∈ news') : SomeSrc w sa vs news' := by
  rcases S with ⟨n, hm⟩ | S
  · exact .inl ⟨n, k _ hm⟩
  · exact .inr S

theorem SomeSrc.at {w : World} {sa : Addr} {vs : List Value} {news news' : List (Addr × Obj)} {h₀ h : Heap} {L : Addr} {m : Str → Option Value} (F : Fr h₀ L h m) (X : (rgTop.heap_1 w.params).In h₀) (N : News h₀ L h news') (S : SomeSrc w sa vs news) (k : ∀ p ∈ news, p ∈ news') : h.IsList sa vs.toArray :=
  (S.mono k).list F X N

section
variable {prog : Program} {w : World} {A : Around} {E : Value → Shared → Prop} {s : Shared}
theorem item_some {value slice : PySem.Expr} {l : Addr} {vs : List Value} {ss : List Str} {k : Int} {u : Tok} {Q : Value → Shared → Prop} (hl : s.heap.IsList l vs.toArray) (hS : StrsAre vs ss)
    (h0 : 0 ≤ k) (hk : k < ss.length) (hb : ss.length ≤ 100) (h : ∀ x t, x ∈ ss → Q (.str x t) s)
    (hs : subscripted slice false (.ref l) (.int k u) = operate [.ref l, .int k u] (getItem (.ref l) (.int k u)) := by with_unfolding_all rfl) :
    wpAny (model prog w) A (subscriptTail value slice (.ref l) (.int k u)) Q E s := by
  have hlen : vs.length = ss.length := StrsAre.length hS
  have hi : k.toNat < vs.length := by omega
  obtain ⟨x, t, hx⟩ : ∃ x t, vs[k.toNat]'hi = .str x t := StrsAre.all hS _ (List.getElem_mem hi)
  have hmem : x ∈ ss := by
    have e := StrsAre.strs hS
    rw [← e]
    exact List.mem_map.mpr ⟨_, List.getElem_mem hi, by rw [hx]; rfl⟩
  exact tail_any hl.typeIs slot_list_getitem.lookup (wpAny_getItem_list hl h0 (by omega) (x := .str x t) (by simp [hi, hx]) (h x t hmem)) hs
theorem len_some {l : Addr} {vs : List Value} {ss : List Str} {Q : Value → Shared → Prop} (hl : s.heap.IsList l vs.toArray) (hS : StrsAre vs ss) (hb : ss.length ≤ 100)
    (h : Q (.int ss.length (s.toks + 1)) { s with toks := s.toks + 1 + 1 }) : wpAny (model prog w) A (call (.builtin "len") [.ref l]) Q E s := by
  have hlen : vs.length = ss.length := StrsAre.length hS
  exact len_list hl (by simp; omega) (by have e : vs.toArray.size = ss.length := by simp [hlen]
                                         rw [e]; exact h)
end


end
local macro_rules | `(tactic| walk_at $s:str) => `(tactic| k_extra $s)
local macro_rules | `(tactic| walk_at "hide9a") => `(tactic| ((try rename (type_of% $(Lean.mkIdent `l1q9)) => x); (try rename (type_of% $(Lean.mkIdent `F9q9)) => x); (try rename (type_of% $(Lean.mkIdent `N'q9)) => x)))
local macro_rules | `(tactic| walk_at "hide9b") => `(tactic| ((try rename (type_of% $(Lean.mkIdent `S9q9)) => x); (try rename (type_of% $(Lean.mkIdent `N9q9)) => x); (try rename (type_of% $(Lean.mkIdent `off8q9)) => x); (try rename (type_of% $(Lean.mkIdent `off9q9)) => x); (try rename (type_of% $(Lean.mkIdent `l1bq9)) => x); (try rename (type_of% $(Lean.mkIdent `l2q9)) => x); (try rename (type_of% $(Lean.mkIdent `hb1q9)) => x); (try rename (type_of% $(Lean.mkIdent `hu1q9)) => x); (try rename (type_of% $(Lean.mkIdent `hc1q9)) => x); (try rename (type_of% $(Lean.mkIdent `hc2q9)) => x); (try rename (type_of% $(Lean.mkIdent `hc3q9)) => x); (try rename (type_of% $(Lean.mkIdent `hc4q9)) => x); (try rename (type_of% $(Lean.mkIdent `hc5q9)) => x); (try rename (type_of% $(Lean.mkIdent `K9q9)) => x); walk_at "hide9a"))
local macro_rules | `(tactic| omega) => `(tactic| first | with_reducible (k_extra "om9") | fail "om9")
local macro_rules | `(tactic| k_lt $h) => `(tactic| (replace $h := allLt_of $h; dsimp only [AllLt] at $h:ident; (try simp only [and_true] at $h:ident)))
local macro_rules | `(tactic| k_steps) => `(tactic| k_extra "ks9")
theorem ln_MA_1 : True := by
  k_with "ks9" => (repeat' (first | ((fail_if_success (fail_if_success k_unfold)); (dsimp only [qk])) | (k_unfold; (try dsimp only)) | (k_end; kc_close) | ((first | (with_reducible show wpAny _ _ (PySem.exec _ _) _ _ _) | (with_reducible show wpAny _ _ (PySem.eval (PySem.Expr.Call _ _ _ _) _) _ _ _)); k_fold) | walk1 | (dsimp only; walk1) | (leave1; walk_say "STEP leave1"; (try dsimp only)) | fail "no step"))
  exact True.intro
local macro_rules | `(tactic| k_mem) => `(tactic| k_extra "km9")
theorem ln_MA_2 : True := by
  k_with "km9" => (first | with_reducible assumption | exact List.mem_cons_self | (refine List.mem_cons_of_mem _ ?_; k_mem) | (refine List.mem_append_left _ ?_; k_mem) | (refine List.mem_append_right _ ?_; k_mem))
  k_with "sub9" => (first | exact List.forall_mem_nil _ | (refine fcons ?_ ?_; (focus k_mem); (focus (k_extra "sub9"))) | (refine fapp ?_ ?_; (focus (k_extra "sub9")); (focus (k_extra "sub9"))) | (intro _ _; k_mem))
  k_with "ne9" => first | with_reducible assumption | (refine neN ?_; (try dsimp only); omega)
  exact True.intro
local macro_rules | `(tactic| k_all) => `(tactic| k_extra "ka9")
theorem ln_MA_3 : True := by
  k_with "ka9" => (first | with_reducible assumption | exact List.forall_mem_nil _ | (refine fcons ?_ ?_; (focus (k_extra "ne9")); (focus k_all)) | (refine fapp ?_ ?_; (focus k_all); (focus k_all)))
  exact True.intro
local macro_rules | `(tactic| k_updF) => `(tactic| k_extra "ku9")
theorem ln_MA_4 : True := by
  k_with "ku9" => (with_reducible assumption)
  exact True.intro
local macro_rules | `(tactic| ktr_room) => `(tactic| k_extra "kr9")
theorem ln_MA_5 : True := by
  k_with "kr9" => ((try dsimp only [depth_under_make, depth_under_kw, depth_in1, depth_deeper, depth_caller, ktrTop]); omega)
  exact True.intro
local macro_rules | `(tactic| ktr_units) => `(tactic| k_extra "kt9")
theorem ln_MA_6 : True := by
  k_with "kt9" => ((try dsimp only [units_in1, units_deeper, Around.mark_units, units_caller, ktrTop]); omega)
  k_with "om9" => decide
  k_with "om9" => (show _ = _; first | (refine' se9 ?zhq9; (case zhq9 => with_reducible assumption)) | exact Nat.sub_zero _ | exact (Nat.sub_zero _).symm | (refine' se0 ?zhq9 ?zsq9; (case zhq9 => with_reducible assumption); (case zsq9 => with_reducible assumption)) | (refine' Eq.symm ?_; with_reducible assumption) | (refine' sn9 ?zhq9 ?zsq9; (case zhq9 => with_reducible assumption); (case zsq9 => with_reducible assumption)) | (refine' ms8 ?zhq9; (case zhq9 => with_reducible assumption)))
  k_with "om9" => (show _ ≠ _; first | (refine' nea9 ?zkq9; (case zkq9 => decide)) | (refine' nea9r ?zkq9; (case zkq9 => decide)) | (refine' nea9l ?zkq9; (case zkq9 => decide)) | (refine' Nat.ne_of_gt ?_; k_extra "lt9") | (refine' Nat.ne_of_lt ?_; k_extra "lt9") | (k_extra "lt9") | (refine' Ne.symm ?_; k_extra "lt9") | (refine' Nat.ne_of_lt (Nat.lt_trans ?zhq9 ?zkq9); (case zhq9 => assumption); (case zkq9 => k_extra "lt9")) | (refine' Nat.ne_of_gt (Nat.lt_trans ?zhq9 ?zkq9); (case zhq9 => assumption); (case zkq9 => k_extra "lt9")) | (k_extra "lt9n") | (refine' Ne.symm ?_; k_extra "lt9n") | (refine' ci9 ?zsq9; (case zsq9 => with_reducible assumption)) | (refine' ci9l ?zsq9; (case zsq9 => with_reducible assumption)))
  k_with "om9" => (show _ ≤ _; first | exact Nat.zero_le _ | exact Nat.le_refl _ | exact Int.natCast_nonneg _ | (refine' le9 ?zhq9 ?zkq9; (case zhq9 => with_reducible assumption); (case zkq9 => decide)) | (refine' le9e ?zsq9 ?zhq9 ?zkq9; (case zsq9 => with_reducible assumption); (case zhq9 => with_reducible assumption); (case zkq9 => decide)) | (refine' Nat.le_of_eq ?zhq9; (case zhq9 => with_reducible assumption)) | (refine' Nat.le_of_eq (Eq.symm ?_); with_reducible assumption) | (refine' Nat.le_of_lt ?zhq9; (case zhq9 => with_reducible assumption)) | (refine' le9a ?zhq9 ?zkq9; (case zhq9 => with_reducible assumption); (case zkq9 => decide)) | (refine' le9ea ?zsq9 ?zhq9 ?zkq9; (case zsq9 => with_reducible assumption); (case zhq9 => with_reducible assumption); (case zkq9 => decide)) | (refine' lelt9 ?zhq9 ?zkq9; (case zhq9 => with_reducible assumption); (case zkq9 => decide)) | (refine' lel9 ?zhq9 ?zsq9 ?zkq9; (case zhq9 => with_reducible assumption); (case zsq9 => with_reducible assumption); (case zkq9 => decide)) | (refine' le9t ?zhq9 ?zsq9 ?zkq9; (case zhq9 => with_reducible assumption); (case zsq9 => with_reducible assumption); (case zkq9 => decide)) | (refine' le9et ?zeq9 ?zhq9 ?zsq9 ?zkq9; (case zeq9 => with_reducible assumption); (case zhq9 => with_reducible assumption); (case zsq9 => with_reducible assumption); (case zkq9 => decide)) | (refine' lel9t ?zhq9 ?zsq9 ?ztq9 ?zkq9; (case zhq9 => with_reducible assumption); (case zsq9 => with_reducible assumption); (case ztq9 => with_reducible assumption); (case zkq9 => decide)) | (refine' min9l ?zhq9 ?zkq9; (case zhq9 => with_reducible assumption); (case zkq9 => decide)) | (refine' add9 ?zhq9 ?zsq9 ?zkq9; (case zhq9 => with_reducible assumption); (case zsq9 => with_reducible assumption); (case zkq9 => decide)) | exact Nat.le_add_right _ _ | exact Int.le_refl _ | (refine' ig0 ?zhq9; (case zhq9 => with_reducible assumption)) | (refine' ig00 ?zhq9; (case zhq9 => with_reducible assumption)) | exact ik2 | exact ik3 | exact ik23 | exact ik33 | (k_extra "lt9") | (refine' fm9 ?zhq9 ?zsq9; (case zhq9 => with_reducible assumption); (case zsq9 => with_reducible assumption)) | (refine' add9m ?zhq9 ?zsq9 ?zkq9; (case zhq9 => with_reducible assumption); (case zsq9 => with_reducible assumption); (case zkq9 => decide)) | (refine' add9e ?zhq9 ?zeq9 ?zsq9 ?zkq9; (case zhq9 => with_reducible assumption); (case zeq9 => with_reducible assumption); (case zsq9 => with_reducible assumption); (case zkq9 => decide)) | (refine' le9 (a := 20) ?zhq9 ?zkq9; (case zhq9 => with_reducible assumption); (case zkq9 => decide)) | (refine' le9a (a := 20) ?zhq9 ?zkq9; (case zhq9 => with_reducible assumption); (case zkq9 => decide)) | (refine' le9 (a := 2) ?zhq9 ?zkq9; (case zhq9 => with_reducible assumption); (case zkq9 => decide)) | (refine' le9t (a := 20) ?zhq9 ?zsq9 ?zkq9; (case zsq9 => with_reducible assumption); (case zhq9 => with_reducible assumption); (case zkq9 => decide)) | (refine' le9pk ?zsq9 ?zhq9 ?zkq9; (case zsq9 => with_reducible assumption); (case zhq9 => with_reducible assumption); (case zkq9 => decide)) | (refine' le9q ?zsq9 ?zhq9 ?zkq9; (case zsq9 => with_reducible assumption); (case zhq9 => with_reducible assumption); (case zkq9 => decide)) | exact Nat.min_le_left _ _ | exact Nat.min_le_right _ _ | (refine' m5 ?zkq9; (case zkq9 => decide)) | (refine' m5l ?zhq9 ?zkq9; (case zhq9 => with_reducible assumption); (case zkq9 => decide)) | (refine' add9t ?zhq9 ?zsq9 ?zeq9 ?zkq9; (case zhq9 => with_reducible assumption); (case zsq9 => with_reducible assumption); (case zeq9 => with_reducible assumption); (case zkq9 => decide)) | (refine' add9s ?zhq9 ?zsq9 ?zeq9 ?zkq9; (case zhq9 => with_reducible assumption); (case zsq9 => with_reducible assumption); (case zeq9 => with_reducible assumption); (case zkq9 => decide)) | (refine' add9u ?zhq9 ?zsq9 ?zeq9 ?ztq9 ?zkq9; (case zhq9 => with_reducible assumption); (case zsq9 => with_reducible assumption); (case zeq9 => with_reducible assumption); (case ztq9 => with_reducible assumption); (case zkq9 => decide)) | exact Nat.add_le_add_left (Nat.le_add_right _ _) _ | (refine' Nat.add_le_add ?zhq9 ?zsq9; (case zhq9 => with_reducible assumption); (case zsq9 => with_reducible assumption)))
  k_with "om9" => (show _ < _; first | (refine' rm2 ?zhq9 ?zkq9; (case zhq9 => with_reducible assumption); (case zkq9 => decide)) | (refine' rm1 ?zhq9 ?zkq9; (case zhq9 => with_reducible assumption); (case zkq9 => decide)) | (refine' rm0 ?zhq9; (case zhq9 => with_reducible assumption)) | (refine' rm3 ?zhq9 ?zkq9; (case zhq9 => with_reducible assumption); (case zkq9 => decide)) | (refine' rm4 ?zhq9 ?zkq9; (case zhq9 => with_reducible assumption); (case zkq9 => decide)) | (refine' rz5 ?zhq9 ?zkq9; (case zhq9 => with_reducible assumption); (case zkq9 => decide)) | (refine' rz6 ?zhq9 ?zkq9; (case zhq9 => with_reducible assumption); (case zkq9 => decide)) | (refine' rz1 ?zhq9 ?zsq9 ?zkq9; (case zhq9 => with_reducible assumption); (case zsq9 => with_reducible assumption); (case zkq9 => decide)) | (refine' rz2 ?zhq9 ?zsq9 ?zkq9; (case zhq9 => with_reducible assumption); (case zsq9 => with_reducible assumption); (case zkq9 => decide)) | (refine' rz3 ?zhq9 ?zsq9 ?zkq9; (case zhq9 => with_reducible assumption); (case zsq9 => with_reducible assumption); (case zkq9 => decide)) | (refine' rz4 ?zhq9 ?zsq9 ?zkq9; (case zhq9 => with_reducible assumption); (case zsq9 => with_reducible assumption); (case zkq9 => decide)) | (refine' rk1 ?zhq9 ?zkq9; (case zhq9 => with_reducible assumption); (case zkq9 => decide)) | (refine' rk2 ?zhq9 ?zkq9; (case zhq9 => with_reducible assumption); (case zkq9 => decide)) | (refine' sl9 ?zhq9; (case zhq9 => with_reducible assumption)) | (k_extra "lt9") | (refine' lt9le ?zsq9 ?zhq9; (case zsq9 => with_reducible assumption); (case zhq9 => with_reducible assumption)) | (refine' lt9le2 ?zsq9 ?zhq9; (case zsq9 => with_reducible assumption); (case zhq9 => with_reducible assumption)) | (refine' lt9e ?zsq9 ?zhq9 ?zkq9; (case zsq9 => with_reducible assumption); (case zhq9 => with_reducible assumption); (case zkq9 => decide)) | (refine' lt9 ?zhq9 ?zkq9; (case zhq9 => with_reducible assumption); (case zkq9 => decide)) | (refine' lt9l ?zhq9 ?zkq9; (case zhq9 => with_reducible assumption); (case zkq9 => decide)) | exact Nat.lt_succ_self _ | (refine' il1 ?zhq9 ?zkq9; (case zhq9 => with_reducible assumption); (case zkq9 => decide)) | (refine' il2 ?zhq9 ?zkq9; (case zhq9 => with_reducible assumption); (case zkq9 => decide)) | (refine' il0 ?zhq9 ?zkq9; (case zhq9 => with_reducible assumption); (case zkq9 => decide)) | (refine' sl9s ?zhq9; (case zhq9 => with_reducible assumption)) | (refine' ic9 ?zhq9 ?zsq9; (case zhq9 => with_reducible assumption); (case zsq9 => with_reducible assumption)) | (refine' cn9 ?zhq9 ?zsq9; (case zhq9 => with_reducible assumption); (case zsq9 => with_reducible assumption)) | (refine' tt9 ?zhq9 ?zsq9; (case zhq9 => with_reducible assumption); (case zsq9 => with_reducible assumption)))
  k_with "om9" => assumption
  k_with "cj9" => (with_reducible first | (refine' cj1 ?zkq9; (case zkq9 => assumption)) | (refine' cj2 ?zkq9; (case zkq9 => assumption)) | (refine' cj3 ?zkq9; (case zkq9 => assumption)) | (refine' cj4 ?zkq9; (case zkq9 => assumption)) | (refine' cj5 ?zkq9; (case zkq9 => assumption)) | (refine' cj6 ?zkq9; (case zkq9 => assumption)) | (refine' cj7 ?zkq9; (case zkq9 => assumption)) | (refine' cj8 ?zkq9; (case zkq9 => assumption)) | (refine' cj9 ?zkq9; (case zkq9 => assumption)) | (refine' ce2 ?zkq9; (case zkq9 => assumption)) | (refine' ce3 ?zkq9; (case zkq9 => assumption)) | (refine' ce4 ?zkq9; (case zkq9 => assumption)) | (refine' ce5 ?zkq9; (case zkq9 => assumption)) | (refine' ce6 ?zkq9; (case zkq9 => assumption)))
  k_with "lt9" => (with_reducible first | assumption | (k_extra "cj9"))
  k_with "lt9n" => (with_reducible first | (refine' cj1 ?ziq9; (case ziq9 => k_extra "cj9")) | (refine' cj2 ?ziq9; (case ziq9 => k_extra "cj9")) | (refine' ce2 ?ziq9; (case ziq9 => k_extra "cj9")) | (refine' ce3 ?ziq9; (case ziq9 => k_extra "cj9")) | (refine' cj3 ?ziq9; (case ziq9 => k_extra "cj9")))
  exact True.intro

section
set_option maxHeartbeats 4000000

noncomputable abbrev urnOf (c : Addr) (k : Int) (t : Tok) : List (Str × Value) := [(Str.ofString "cells", Value.ref c), (Str.ofString "k", Value.int k t)]

theorem lot_spec (w : World) (urn c : Addr) (o : Obj) (ys : List Value) (ns : List Int) (k many : Int) (t t2 : Tok) (news : List (Addr × Obj)) (n : Nat)
   (hd : Obj.IsDictOf (strKind PySem.Challenge.rw_rg0118_01.row.prog w) o [(Str.ofString "cells", Value.ref c), (Str.ofString "k", Value.int k t)])
   (hs : (urn == sysModules) = false) (hI : IntsAre ys ns) (hl : ns.length ≤ 30) (hk0 : 0 ≤ k) (hk1 : k < 30) (hm : 0 < many) (hm2 : many < 100)
   (hne : @Ne Nat c urn) (hsep : ∀ p ∈ news, p.1 ≠ urn) :
   Fn w 436 2 [.ref urn, .int many t2] ((urn, o) :: (c, W.listOf ys.toArray n) :: news)
     (fun news' r => Ex4 fun o' t' v t3 => And5 (news' = (urn, o') :: (c, W.listOf ys.toArray n) :: news) (Obj.IsDictOf (strKind PySem.Challenge.rw_rg0118_01.row.prog w) o' [(Str.ofString "cells", Value.ref c), (Str.ofString "k", Value.int (k+1) t')]) (r = .int v t3) (0 ≤ v) (v < many)) := by
  (w_top off; unfold Fn; intro loose mean mg mb dp un gd cn cs a9 ccd cl outer A₀ base h₀ L m s Q E B F X N T hk hdp hun hret; (have kf : KF (rgTop.heap_1 w.params) PySem.Challenge.rw_rg0118_01 := (by k_fill; trivial)); clear kf; refine wpAny_call ?_; k_dflt ktr_enter)
  ((try k_fold); k_steps)
  all_goals ((refine' hret _ _ _ _ _ ?kF ?kN ?_; (case kF => assumption); (case kN => first | assumption | exact ktn_tl0 (by assumption))); refine ⟨_, _, _, _, rfl, by assumption, rfl, Int.fmod_nonneg_of_pos _ hm, Int.fmod_lt_of_pos _ hm⟩)



end
theorem ln_MB_7 : True := by
  k_with "call builtin:len" => (((k_here; (with_reducible show wpAny _ _ (call (Value.builtin "len") [Value.ref _]) _ _ _); (with_reducible rename SomeSrc _ _ _ _ => S9q9); k_dflt (refine len_some (SomeSrc.at (by k_asm) (by k_asm) (by k_asm) S9q9 (by (k_extra "sub9"))) (by assumption) (by omega) ?_))) <;> walk_at "hide9b")
  k_with "subscriptTail Name Call ref int" => (((k_here; (with_reducible rename SomeSrc _ _ _ _ => S9q9); k_dflt (refine item_some (SomeSrc.at (by k_asm) (by k_asm) (by k_asm) S9q9 (by (k_extra "sub9"))) (by assumption) (by omega) (by omega) (by omega) ?_); intro _ _ _)) <;> walk_at "hide9b")
  k_with "call ref" => (k_here; (with_reducible show wpAny _ _ (call (Value.ref 436) _) _ _ _); k_dflt (refine' Fn.useK ?kCq9 ?kBq9 ?kFq9 ?kXq9 ?kNq9 ?kTq9 ?kkq9 ?kdq9 ?kuq9 ?_; (case kBq9 => k_asm); (case kFq9 => k_asm); (case kXq9 => k_asm); (case kNq9 => k_asm); (case kTq9 => k_asm); (case kkq9 => first | exact rfl | assumption); (case kCq9 => exact lot_spec _ _ _ _ _ _ _ _ _ _ _ _ (by assumption) (by assumption) (by assumption) (by omega) (by omega) (by omega) (by omega) (by omega) (by assumption) (by assumption)); (case kdq9 => ktr_room); (case kuq9 => ktr_units)); (intro KQ9q9 hKQ9q9 _ _ _ _ _ _ _ P9q9); (obtain ⟨_, _, _, _, e1q9, _, e2q9, _, _⟩ := P9q9); (replace e1q9 := Eq.symm e1q9); (subst e1q9); (try subst e2q9); (refine hKQ9q9 _ _ _ _ ?_); (clear hKQ9q9 KQ9q9); (try dsimp only))
  exact True.intro
section
set_option maxHeartbeats 4000000

theorem end_spec (w : World) (urn c sa : Addr) (o : Obj) (ys : List Value) (ns : List Int) (k : Int) (t : Tok) (vs : List Value) (ss : List Str) (news : List (Addr × Obj)) (n : Nat)
   (hd : Obj.IsDictOf (strKind PySem.Challenge.rw_rg0118_01.row.prog w) o [(Str.ofString "cells", Value.ref c), (Str.ofString "k", Value.int k t)])
   (hs : (urn == sysModules) = false) (hI : IntsAre ys ns) (hl : ns.length ≤ 30) (hk0 : 0 ≤ k) (hk1 : k < 30)
   (S : SomeSrc w sa vs news) (hS : StrsAre vs ss) (hss0 : 0 < ss.length) (hss1 : ss.length < 50)
   (hne : @Ne Nat c urn) (hsep : ∀ p ∈ news, p.1 ≠ urn) :
   Fn w 443 4 [.ref urn, .ref sa] ((urn, o) :: (c, W.listOf ys.toArray n) :: news)
     (fun news' r => Ex5 fun o' t' D x t1 => And5 (news' = (D, { cls := .type "tuple", data := .seq #[.str x t1] }) :: (urn, o') :: (c, W.listOf ys.toArray n) :: news) (Obj.IsDictOf (strKind PySem.Challenge.rw_rg0118_01.row.prog w) o' [(Str.ofString "cells", Value.ref c), (Str.ofString "k", Value.int (k+1) t')]) (r = .ref D) (x ∈ ss) (@LT.lt Nat _ urn D)) := by
  (w_top off; unfold Fn; intro loose mean mg mb dp un gd cn cs a9 ccd cl outer A₀ base h₀ L m s Q E B F X N T hk hdp hun hret; (have kf : KF (rgTop.heap_1 w.params) PySem.Challenge.rw_rg0118_01 := (by k_fill; trivial)); clear kf; refine wpAny_call ?_; k_dflt ktr_enter)
  ((try k_fold); k_steps)
  (refine' hret _ _ _ _ _ ?kF ?kN ?_; (case kF => assumption); (case kN => first | assumption | exact ktn_tl0 (by assumption)))
  exact ⟨_, _, _, _, _, rfl, by assumption, rfl, by assumption, by omega⟩

end

section

set_option maxHeartbeats 4000000
noncomputable abbrev Led := List (Addr × Obj)
noncomputable abbrev tupO (vs : List Value) : Obj := { cls := .type "tuple", data := .seq vs.toArray }

inductive Tm where
  | l (x : Str) | f (x : Str) | gll (x y : Str) | gfl (x y : Str) | gff (x y : Str)
  deriving DecidableEq

inductive Rel (news : Led) : Value → Tm → Prop
  | l {a x t} : (a, tupO [.str x t]) ∈ news → Rel news (.ref a) (.l x)
  | f {a b x t u} : (a, tupO [.str (Str.ofString "f") u, .ref b]) ∈ news → (b, tupO [.str x t]) ∈ news → Rel news (.ref a) (.f x)
  | gll {a b c x y t u v} : (a, tupO [.str (Str.ofString "g") u, .ref b, .ref c]) ∈ news → (b, tupO [.str x t]) ∈ news → (c, tupO [.str y v]) ∈ news → Rel news (.ref a) (.gll x y)
  | gfl {a b c d x y t u v u2} : (a, tupO [.str (Str.ofString "g") u, .ref b, .ref c]) ∈ news → (b, tupO [.str (Str.ofString "f") u2, .ref d]) ∈ news → (d, tupO [.str x t]) ∈ news → (c, tupO [.str y v]) ∈ news → Rel news (.ref a) (.gfl x y)
  | gff {a b c d e x y t u v u2 u3} : (a, tupO [.str (Str.ofString "g") u, .ref b, .ref c]) ∈ news → (b, tupO [.str (Str.ofString "f") u2, .ref d]) ∈ news → (d, tupO [.str x t]) ∈ news → (c, tupO [.str (Str.ofString "f") u3, .ref e]) ∈ news → (e, tupO [.str y v]) ∈ news → Rel news (.ref a) (.gff x y)

theorem Rel.mono {n n' : Led} {v : Value} {T : Tm} (h : Rel n v T) (k : ∀ p ∈ n, p ∈ n') : Rel n' v T := by
  cases h with
  | l a => exact .l (k _ a)
  | f a b => exact .f (k _ a) (k _ b)
  | gll a b c => exact .gll (k _ a) (k _ b) (k _ c)
  | gfl a b c d => exact .gfl (k _ a) (k _ b) (k _ c) (k _ d)
  | gff a b c d e => exact .gff (k _ a) (k _ b) (k _ c) (k _ d) (k _ e)

noncomputable def Tm.ends : Tm → List Str
  | .l x => [x] | .f x => [x] | .gll x y => [x, y] | .gfl x y => [x, y] | .gff x y => [x, y]
noncomputable def Tm.isSide : Tm → Bool
  | .gff .. => false | _ => true


end
theorem ln_MC_8 : True := by
  k_with "call ref" => ((((with_reducible show wpAny _ _ (call (Value.ref 443) _) _ _ _); (with_reducible rename SomeSrc _ _ _ _ => S9q9); first | (k_here; (with_reducible show wpAny _ _ (call (Value.ref 443) _) _ _ _); k_dflt (refine' Fn.useK ?kCq9 ?kBq9 ?kFq9 ?kXq9 ?kNq9 ?kTq9 ?kkq9 ?kdq9 ?kuq9 ?_; (case kBq9 => k_asm); (case kFq9 => k_asm); (case kXq9 => k_asm); (case kNq9 => k_asm); (case kTq9 => k_asm); (case kkq9 => first | exact rfl | assumption); (case kCq9 => exact end_spec _ _ _ _ _ _ _ _ _ _ _ _ _ (by assumption) (by assumption) (by assumption) (by omega) (by omega) (by omega) (SomeSrc.mono S9q9 (by (k_extra "sub9"))) (by assumption) (by omega) (by omega) (by assumption) (by k_all)); (case kdq9 => ktr_room); (case kuq9 => ktr_units)); (intro KQ9q9 hKQ9q9 _ _ _ _ _ _ N9q9 P9q9); (obtain ⟨_, _, _, _, _, e1q9, _, e2q9, _, _⟩ := P9q9); (replace e1q9 := Eq.symm e1q9); (subst e1q9); (try subst e2q9); (refine hKQ9q9 _ _ _ _ ?_); (clear hKQ9q9 KQ9q9); (try dsimp only)) | ((with_reducible rename News _ _ _ _ => N9q9); replace N9q9 := News_rot1 N9q9; (k_here; (with_reducible show wpAny _ _ (call (Value.ref 443) _) _ _ _); k_dflt (refine' Fn.useK ?kCq9 ?kBq9 ?kFq9 ?kXq9 ?kNq9 ?kTq9 ?kkq9 ?kdq9 ?kuq9 ?_; (case kBq9 => k_asm); (case kFq9 => k_asm); (case kXq9 => k_asm); (case kNq9 => k_asm); (case kTq9 => k_asm); (case kkq9 => first | exact rfl | assumption); (case kCq9 => exact end_spec _ _ _ _ _ _ _ _ _ _ _ _ _ (by assumption) (by assumption) (by assumption) (by omega) (by omega) (by omega) (SomeSrc.mono S9q9 (by (k_extra "sub9"))) (by assumption) (by omega) (by omega) (by assumption) (by k_all)); (case kdq9 => ktr_room); (case kuq9 => ktr_units)); (intro KQ9q9 hKQ9q9 _ _ _ _ _ _ N9q9 P9q9); (obtain ⟨_, _, _, _, _, e1q9, _, e2q9, _, _⟩ := P9q9); (replace e1q9 := Eq.symm e1q9); (subst e1q9); (try subst e2q9); (refine hKQ9q9 _ _ _ _ ?_); (clear hKQ9q9 KQ9q9); (try dsimp only))) | ((with_reducible rename News _ _ _ _ => N9q9); replace N9q9 := News_rot2 N9q9; (k_here; (with_reducible show wpAny _ _ (call (Value.ref 443) _) _ _ _); k_dflt (refine' Fn.useK ?kCq9 ?kBq9 ?kFq9 ?kXq9 ?kNq9 ?kTq9 ?kkq9 ?kdq9 ?kuq9 ?_; (case kBq9 => k_asm); (case kFq9 => k_asm); (case kXq9 => k_asm); (case kNq9 => k_asm); (case kTq9 => k_asm); (case kkq9 => first | exact rfl | assumption); (case kCq9 => exact end_spec _ _ _ _ _ _ _ _ _ _ _ _ _ (by assumption) (by assumption) (by assumption) (by omega) (by omega) (by omega) (SomeSrc.mono S9q9 (by (k_extra "sub9"))) (by assumption) (by omega) (by omega) (by assumption) (by k_all)); (case kdq9 => ktr_room); (case kuq9 => ktr_units)); (intro KQ9q9 hKQ9q9 _ _ _ _ _ _ N9q9 P9q9); (obtain ⟨_, _, _, _, _, e1q9, _, e2q9, _, _⟩ := P9q9); (replace e1q9 := Eq.symm e1q9); (subst e1q9); (try subst e2q9); (refine hKQ9q9 _ _ _ _ ?_); (clear hKQ9q9 KQ9q9); (try dsimp only))))) <;> walk_at "hide9b")
  exact True.intro
section
set_option maxHeartbeats 4000000

theorem side_spec (w : World) (urn c sa : Addr) (o : Obj) (ys : List Value) (ns : List Int) (k : Int) (t : Tok) (vs : List Value) (ss : List Str) (news : List (Addr × Obj)) (n : Nat)
   (hd : Obj.IsDictOf (strKind PySem.Challenge.rw_rg0118_01.row.prog w) o [(Str.ofString "cells", Value.ref c), (Str.ofString "k", Value.int k t)])
   (hs : (urn == sysModules) = false) (hI : IntsAre ys ns) (hl : ns.length ≤ 30) (hk0 : 0 ≤ k) (hk1 : k < 25)
   (S : SomeSrc w sa vs news) (hS : StrsAre vs ss) (hss0 : 0 < ss.length) (hss1 : ss.length < 50)
   (hne : @Ne Nat c urn) (hsep : ∀ p ∈ news, p.1 ≠ urn) :
   Fn w 450 6 [.ref urn, .ref sa] ((urn, o) :: (c, W.listOf ys.toArray n) :: news)
     (fun news' r => Ex5 fun o' t' tl T k' => And8 (news' = (urn, o') :: (c, W.listOf ys.toArray n) :: (tl ++ news)) (Obj.IsDictOf (strKind PySem.Challenge.rw_rg0118_01.row.prog w) o' [(Str.ofString "cells", Value.ref c), (Str.ofString "k", Value.int k' t')]) (Rel tl r T) (T.isSide = true) (∀ x ∈ T.ends, x ∈ ss) (∀ p ∈ tl, p.1 ≠ urn) (k ≤ k') (k' ≤ k + 3)) := by
  (w_top off; unfold Fn; intro loose mean mg mb dp un gd cn cs a9 ccd cl outer A₀ base h₀ L m s Q E B F X N T hk hdp hun hret; (have kf : KF (rgTop.heap_1 w.params) PySem.Challenge.rw_rg0118_01 := (by k_fill; trivial)); clear kf; refine wpAny_call ?_; k_dflt ktr_enter)
  ((try k_fold); k_steps)
  · ((with_reducible rename News _ _ _ _ => N9); refine' hret _ _ _ _ _ ?kF (News_rot1 N9) ⟨_, _, [_], _, _, rfl, ?kd, (Rel.l (by k_mem)), rfl, ?kE, ?kS, ?h1, ?h2⟩; (case kF => assumption); (case kd => assumption); (case kE => simp [Tm.ends, *]); (case kS => simp only [List.forall_mem_cons]; (repeat' (first | exact List.forall_mem_nil _ | refine And.intro ?_ ?_)) <;> (refine neN ?_; (try dsimp only); omega)); (case h1 => omega); (case h2 => omega))
  · ((with_reducible rename News _ _ _ _ => N9); refine' hret _ _ _ _ _ ?kF (News_rot2 N9) ⟨_, _, [_, _], _, _, rfl, ?kd, (Rel.f (by k_mem) (by k_mem)), rfl, ?kE, ?kS, ?h1, ?h2⟩; (case kF => assumption); (case kd => assumption); (case kE => simp [Tm.ends, *]); (case kS => simp only [List.forall_mem_cons]; (repeat' (first | exact List.forall_mem_nil _ | refine And.intro ?_ ?_)) <;> (refine neN ?_; (try dsimp only); omega)); (case h1 => omega); (case h2 => omega))
  · ((with_reducible rename News _ _ _ _ => N9); refine' hret _ _ _ _ _ ?kF (News_rot2 N9) ⟨_, _, [_, _, _], _, _, rfl, ?kd, (Rel.gll (by k_mem) (by k_mem) (by k_mem)), rfl, ?kE, ?kS, ?h1, ?h2⟩; (case kF => assumption); (case kd => assumption); (case kE => simp [Tm.ends, *]); (case kS => simp only [List.forall_mem_cons]; (repeat' (first | exact List.forall_mem_nil _ | refine And.intro ?_ ?_)) <;> (refine neN ?_; (try dsimp only); omega)); (case h1 => omega); (case h2 => omega))
  · ((with_reducible rename News _ _ _ _ => N9); refine' hret _ _ _ _ _ ?kF (News_rot2 N9) ⟨_, _, [_, _, _, _], _, _, rfl, ?kd, (Rel.gfl (by k_mem) (by k_mem) (by k_mem) (by k_mem)), rfl, ?kE, ?kS, ?h1, ?h2⟩; (case kF => assumption); (case kd => assumption); (case kE => simp [Tm.ends, *]); (case kS => simp only [List.forall_mem_cons]; (repeat' (first | exact List.forall_mem_nil _ | refine And.intro ?_ ?_)) <;> (refine neN ?_; (try dsimp only); omega)); (case h1 => omega); (case h2 => omega))

end

section
set_option maxHeartbeats 2000000
namespace SG
theorem has_empty (j : Nat) : SetTable.has #[] j = false := by simp [SetTable.has]
theorem slot_no_dummy {t : SetTable} (h : t.dummies = #[]) (j : Nat) : t.slot j ≠ .dummy := by
  unfold SetTable.slot
  rw [h, has_empty]
  simp only []
  split
  · exact fun e => nomatch e
  · simp
theorem advance_dummy (t : SetTable) (p : SetTable.Probe) : (t.advance p).dummy = p.dummy := by
  unfold SetTable.advance
  split <;> rfl
theorem go_empty {t : SetTable} (ht : t.dummies = #[]) (f : Nat → Int) (h : Int) : ∀ (fuel : Nat) (p : SetTable.Probe) (j : Nat) (d : Option Nat), SetTable.probe.go t f h fuel p = some (.empty j d) → p.dummy = none → t.slot j = .empty ∧ d = none := by
  intro fuel
  induction fuel with
  | zero => intro p j d e; unfold SetTable.probe.go at e; cases e
  | succ n ih =>
    intro p j d e hp
    unfold SetTable.probe.go at e
    split at e
    · cases e; rename_i q; exact ⟨q, hp⟩
    · rename_i q; exact absurd q (slot_no_dummy ht _)
    · split at e
      · cases e
      · exact ih _ _ _ e (by rw [advance_dummy]; exact hp)
theorem freeSlot_empty {t : SetTable} (ht : t.dummies = #[]) {h : Int} {j : Nat} {b : Bool} (e : t.freeSlot h = some (j, b)) : t.slot j = .empty ∧ b = false := by
  unfold SetTable.freeSlot at e
  split at e
  · rename_i j' d' q
    cases e
    have := go_empty ht _ _ _ _ _ _ q rfl
    rw [this.2]
    exact ⟨by rw [this.2] at q; exact this.1, rfl⟩
  · cases e

structure Tame (t : SetTable) (n : Nat) : Prop where
  mask : 7 ≤ t.mask
  dum : t.dummies = #[]
  sz : t.place.size = n
  le : n ≤ 2
  up : ∀ p0 p1, t.place = #[p0, p1] → p0 < p1
theorem Tame.fits {t : SetTable} {n : Nat} (T : Tame t n) : t.fits n = true := by
  have := T.mask; have := T.le; have := T.sz
  simp only [SetTable.fits, SetTable.fill, T.dum, T.sz, Bool.and_eq_true, beq_iff_eq, decide_eq_true_eq]
  simp; omega +splitNatSub
theorem Tame.notFull {t : SetTable} {n : Nat} (T : Tame t n) : t.tooFull = false := by
  have := T.mask; have := T.le; have := T.sz
  simp only [SetTable.tooFull, SetTable.fill, T.dum, T.sz, decide_eq_false_iff_not]
  simp; omega +splitNatSub
theorem Tame.plain_off {t : SetTable} {n : Nat} (T : Tame t n) : Tame { t with plain := false } n := ⟨T.mask, T.dum, T.sz, T.le, T.up⟩
theorem below0 (j : Nat) : SetTable.below #[] j = 0 := rfl
theorem below1 (p j : Nat) : SetTable.below #[p] j = if p < j then 1 else 0 := by
  unfold SetTable.below SetTable.below.go
  simp only [List.size_toArray, List.length_cons, List.length_nil]
  by_cases h : p < j <;> simp [h, SetTable.below.go]
theorem below2 (p q j : Nat) (hpq : p < q) : SetTable.below #[p, q] j = if q < j then 2 else if p < j then 1 else 0 := by
  unfold SetTable.below SetTable.below.go
  simp only [List.size_toArray, List.length_cons, List.length_nil]
  by_cases h : q < j
  · simp [h, SetTable.below.go]
  · by_cases h2 : p < j
    · simp [h, h2, SetTable.below.go]
    · simp [h, h2, SetTable.below.go]

theorem layNew_tame {t : SetTable} {es : Array (Int × Value)} (T : Tame t es.size) (hs : es.size ≤ 1) (h : Int) (x : Value) :
    Tame (layNew t es h x).2.1 (es.size + 1) ∧ (layNew t es h x).2.1.led = t.led ∧ (layNew t es h x).2.2.1 = false ∧ (t.plain = false → (layNew t es h x).2.1.plain = false) := by
  have hm := T.mask
  unfold layNew
  cases e : t.freeSlot h with
  | none =>
    refine ⟨⟨?_, rfl, by simp [SetTable.standIn], by omega +splitNatSub, ?_⟩, rfl, rfl, fun _ => rfl⟩
    · show 7 ≤ 4 * (es.size + 1) + 4; omega +splitNatSub
    · intro p0 p1 q
      replace q : Array.range (es.size + 1) = #[p0, p1] := q
      have h1 := congrArg Array.size q
      simp at h1
      rw [h1] at q
      have h2 := congrArg (fun a => a[0]?) q
      have h3 := congrArg (fun a => a[1]?) q
      simp at h2 h3
      omega +splitNatSub
  | some r =>
    obtain ⟨slot, wd⟩ := r
    obtain ⟨he, rfl⟩ := freeSlot_empty T.dum e
    dsimp only
    have hput : (t.put slot).1 = { t with place := SetTable.insertAt t.place (SetTable.below t.place slot) slot } := by
      unfold SetTable.put
      simp only [T.dum, has_empty]
      rw [if_neg (by simp)]
    have hT : Tame (t.put slot).1 (es.size + 1) := by
      rw [hput]
      refine ⟨hm, T.dum, ?_, by omega +splitNatSub, ?_⟩
      · show (SetTable.insertAt t.place _ slot).size = _
        have := (SetTable.insertAt_perm t.place (SetTable.below t.place slot) slot).length_eq
        simp only [Array.length_toList, Array.size_push] at this
        rw [this, T.sz]
      · intro p0 p1 q
        replace q : SetTable.insertAt t.place (SetTable.below t.place slot) slot = #[p0, p1] := q
        have h0 := (SetTable.insertAt_perm t.place (SetTable.below t.place slot) slot).length_eq
        simp only [Array.length_toList, Array.size_push, q] at h0
        have h1 : t.place.size = 1 := by simp at h0; omega +splitNatSub
        obtain ⟨p, hp⟩ := Array.size_eq_one_iff.mp h1
        rw [hp, below1] at q
        have hne : p ≠ slot := by
          intro e2
          rw [e2] at hp
          unfold SetTable.slot at he
          rw [hp, below1] at he
          simp at he
        by_cases hlt : p < slot
        · simp [hlt, SetTable.insertAt] at q
          omega +splitNatSub
        · simp [hlt, SetTable.insertAt] at q
          omega +splitNatSub
    have hsz : (SetTable.insertAt es (t.put slot).2 (h, x)).size = es.size + 1 := by
      have := (SetTable.insertAt_perm es (t.put slot).2 (h, x)).length_eq
      simpa using this
    rw [hsz]
    have ho : (t.put slot).1.orStandIn (es.size + 1) = (t.put slot).1 := by unfold SetTable.orStandIn; rw [if_pos hT.fits]
    rw [ho]
    exact ⟨hT, by rw [hput], rfl, fun hp => by rw [hput]; exact hp⟩
end SG

section
variable {prog : Program} {w : World} {K : Type} [DecidableEq K] (knd : KeyKind prog w K)
noncomputable def byT (w : World) : Bool := w.params.followText "set-order"
noncomputable def SetG (o : Obj) (ps : List (K × Value)) : Prop :=
  Ex3 fun es ep t => And7 (o.ExactSet) (o.data = .set es ep t) (ElemsOf knd es.toList) (SG.Tame t es.size) (t.led = !byT w) ((es.toList.map (·.2)).Perm (ps.map (·.2))) (∀ p ∈ ps, knd.is p.1 p.2 = true)
noncomputable def ddv (l : List (K × Value)) : List (K × Value) := l.foldl (fun acc p => if acc.any (fun q => decide (q.1 = p.1)) then acc else acc ++ [p]) []
theorem ddv_snoc (l : List (K × Value)) (p : K × Value) : ddv (l ++ [p]) = if (ddv l).any (fun q => decide (q.1 = p.1)) then ddv l else ddv l ++ [p] := by
  unfold ddv; rw [List.foldl_append]; rfl
theorem ddv_length (l : List (K × Value)) : (ddv l).length ≤ l.length := by
  have : ∀ (l acc : List (K × Value)), (l.foldl (fun acc p => if acc.any (fun q => decide (q.1 = p.1)) then acc else acc ++ [p]) acc).length ≤ acc.length + l.length := by
    intro l
    induction l with
    | nil => intro acc; exact Nat.le_refl _
    | cons p l ih =>
      intro acc
      refine Nat.le_trans (ih _) ?_
      dsimp only
      split <;> simp <;> omega +splitNatSub
  simpa [ddv] using this l []
theorem SetG.len {o : Obj} {ps : List (K × Value)} (G : SetG knd o ps) : ps.length ≤ 2 := by
  obtain ⟨es, ep, t, _, _, _, T, _, hp, _⟩ := G
  have := hp.length_eq
  simp at this
  have := T.le
  omega +splitNatSub
variable {knd} {A : Around} {E : Value → Shared → Prop} {s : Shared}
theorem addG {a : Addr} {o : Obj} {ps : List (K × Value)} {k : K} {x : Value} {Q : Bool → Shared → Prop} (hkey : knd.is k x = true) (hsc : x.scannable = true) (ho : s.heap.get? a = some o) (G : SetG knd o ps) (hl : ps.length ≤ 1)
    (h : ∀ r h' o', Heap.SameBut a s.heap h' → h'.get? a = some o' → SetG knd o' (if ps.any (fun q => decide (q.1 = k)) then ps else ps ++ [(k, x)]) → Q r { s with heap := h' }) :
    wpAny (model prog w) A (setAddHashed a x (knd.hash k)) Q E s := by
  obtain ⟨es, ep, t, hex, hd, hel, T, hled, hperm, hps⟩ := G
  have hsz : es.size = ps.length := by have := hperm.length_eq; simpa using this
  have hf := T.fits
  have hb : es.size < scanBound := by rw [hsz]; exact Nat.lt_of_le_of_lt hl (by decide)
  unfold setAddHashed setAddHashedIn
  refine wpAny_holding (wpAny_bind (wpAny_setState_of ho hd hf ?_))
  dsimp only
  rw [byScan_of hsc hb hel]
  simp only [↓reduceIte]
  unfold setAddByScan
  refine wpAny_bind ?_
  refine wpAny_bind (wpAny_rule ?_)
  refine wpAny_bind (wpAny_setScan_of hkey ho hd hf hel ?_)
  cases hr : List.findIdx? (fun e => knd.is k e.2) es.toList with
  | some j =>
    dsimp only
    obtain ⟨hj, hpj, _⟩ := List.findIdx?_eq_some_iff_getElem.mp hr
    have hany : ps.any (fun q => decide (q.1 = k)) = true := by
      have hm : (es.toList[j]).2 ∈ ps.map (·.2) := hperm.mem_iff.mp (List.mem_map.mpr ⟨_, List.getElem_mem hj, rfl⟩)
      obtain ⟨q, hq, e⟩ := List.mem_map.mp hm
      refine List.any_eq_true.mpr ⟨q, hq, decide_eq_true ?_⟩
      exact knd.inj _ _ _ (hps q hq) (by rw [e]; exact hpj)
    refine wpAny_pure (wpAny_pure ?_)
    have := h false s.heap o (Heap.SameBut.refl a s.heap) ho (by rw [if_pos hany]; exact ⟨es, ep, t, hex, hd, hel, T, hled, hperm, hps⟩)
    exact this
  | none =>
    dsimp only
    have hany : ¬ (ps.any (fun q => decide (q.1 = k)) = true) := by
      intro q
      obtain ⟨p, hp, e⟩ := List.any_eq_true.mp q
      have e := of_decide_eq_true e
      have hm : p.2 ∈ es.toList.map (·.2) := hperm.mem_iff.mpr (List.mem_map.mpr ⟨_, hp, rfl⟩)
      obtain ⟨u, hu, e2⟩ := List.mem_map.mp hm
      have := List.findIdx?_eq_none_iff.mp hr u hu
      rw [e2, ← e, hps p hp] at this
      exact Bool.noConfusion this
    have hgw : ∀ (b : Bool) {s₁ : Shared} {Q' : Unit → Shared → Prop}, Q' () s₁ → wpAny (model prog w) A (match b with | true => rule "set.scan.the-table-gave-way" | false => pure ()) Q' E s₁ :=
      fun b s₁ Q' hq => by cases b <;> first | exact wpAny_pure hq | exact wpAny_rule hq
    have hpm := layNew_perm t es (knd.hash k) x
    have hT := SG.layNew_tame T (by omega +splitNatSub) (knd.hash k) x
    generalize hL : layNew t es (knd.hash k) x = L at hpm hT ⊢
    obtain ⟨es1, t1, wasDummy, gave⟩ := L
    dsimp only at hpm hT ⊢
    obtain ⟨hT1, hT2, rfl, _⟩ := hT
    rw [Array.toList_push] at hpm
    have hsz1 : es1.size = es.size + 1 := by rw [← Array.length_toList, hpm.length_eq, List.length_append, Array.length_toList]; rfl
    have hel1 : ElemsOf knd es1.toList := (hel.push hkey hsc).perm hpm
    have key : ∀ t2 : SetTable, SG.Tame t2 (es.size + 1) → t2.led = t.led → wpAny (model prog w) A (do
        storeSet a es1 t2
        if (!false && t2.tooFull) = true then do
            (match (relayAll t2 es1 (SetTable.grown es1.size)).2.2 with | true => rule "set.scan.the-table-gave-way" | false => pure ())
            storeSet a (relayAll t2 es1 (SetTable.grown es1.size)).1 (relayAll t2 es1 (SetTable.grown es1.size)).2.1
            pure (some true)
          else pure (some true)) (fun r s' => match r with | some b => Q b s' | none => False) E s := by
      intro t2 hT2' hl2
      refine wpAny_bind (wpAny_storeSet_of ho hd ?_ (by rw [hsz1, sizeLine_eq]; omega +splitNatSub))
      rw [hT2'.notFull]
      simp only [Bool.and_false, Bool.false_eq_true, if_false]
      refine wpAny_pure ?_
      have hob := Heap.get?_update_self (h := s.heap) (Obj.putSet es1 t2) ho (by rw [putSet_of _ _ hd]; rfl)
      refine h true _ _ (Heap.SameBut.update s.heap a _) hob ?_
      rw [if_neg hany, putSet_of _ _ hd]
      refine ⟨es1, ep + 1, t2, hex, rfl, hel1, by rw [hsz1]; exact hT2', hl2.trans hled, ?_, ?_⟩
      · refine (hpm.map _).trans ?_
        rw [List.map_append, List.map_append]
        exact hperm.append_right _
      · intro p hp
        rcases List.mem_append.mp hp with hp | hp
        · exact hps p hp
        · rw [List.mem_singleton.mp hp]; exact hkey
    refine wpAny_bind (hgw _ ?_)
    have fin : ∀ (r : Option Bool) (s' : Shared), (match r with | some b => Q b s' | none => False) → wpAny (model prog w) A (match r with | some added => pure added | none => setAddHashedIn a x (knd.hash k) 99999) Q E s' := by
      intro r s' hr
      cases r with
      | none => exact hr.elim
      | some b => exact wpAny_pure hr
    split
    · refine wpAny_bind ?_
      rw [hashByValue_scannable 8 hsc]
      refine wpAny_pure ?_
      refine wpAny_mono (key _ (by split <;> first | exact hT1 | exact hT1.plain_off) (by split <;> exact hT2)) (fun r s' hr => ?_) fun _ _ e => e
      cases r with
      | none => exact hr.elim
      | some b => exact wpAny_pure hr
    · refine wpAny_bind (wpAny_pure ?_)
      simp only [↓reduceIte]
      refine wpAny_mono (key _ hT1 hT2) (fun r s' hr => ?_) fun _ _ e => e
      cases r with
      | none => exact hr.elim
      | some b => exact wpAny_pure hr
end

section
variable {prog : Program} {w : World} {K : Type} [DecidableEq K] {knd : KeyKind prog w K} {A : Around} {R : Result → Shared → Prop} {I : Addr} {fp wr : List Addr} {G : Array GenState → Array GenState → Prop} {P : Nat → Value → Prop} {St : Nat → Shared → Prop}
theorem set_loopG {its : List (K × Value)} {n : Nat} (W : WalksS prog w A.in1 I fp wr G n P St) (S : Addr) (hSf : S ∉ fp) (hn : n = its.length)
    (hval : ∀ i v, P i v → ∃ p, its[i]? = some p ∧ v = p.2) (hk : ∀ p ∈ its, knd.is p.1 p.2 = true ∧ p.2.scannable = true) (hb : its.length ≤ 2) :
    ∀ (k i : Nat) (s : Shared) (o : Obj), n - i = k → i ≤ n → St i s → s.heap.get? S = some o → SetG knd o (ddv (its.take i)) →
      (∀ s' o', Moved (S :: wr) G s s' → s'.heap.get? S = some o' → SetG knd o' (ddv its) → R (.ok (.ret .none)) s') →
      codeAny (model prog w) A (.builtin "set.update.loop" ⟨[.ref S, .ref I], []⟩) R s := by
  have hSw : S ∉ wr := fun h => hSf (W.sub _ h)
  have hsub : ∀ b ∈ wr, b ∈ S :: wr := fun b hb => List.mem_cons_of_mem _ hb
  intro k
  induction k with
  | zero =>
    intro i s o hk hi hst ho hG hR
    have hin : i = n := by first | exact se0 hk hi | omega +splitNatSub
    subst hin
    refine codeAny_builtin F.entry_set_update_loop ?_
    rw [Around.under_plainId F.plain_set_update_loop _]
    show wpAny _ A.in1 (pyNext (.ref I) >>= _) _ _ s
    refine wpAny_bind (W.done s _ _ hst fun s' hm => ?_)
    show wpAny _ A.in1 (ret Value.none) _ _ s'
    exact wpAny_pure (hR s' o (hm.mono hsub) (hm.heap S _ hSw ho) (by rw [List.take_of_length_le (by omega +splitNatSub)] at hG; exact hG))
  | succ k ih =>
    intro i s o hk' hi hst ho hG hR
    have hlt : i < n := by first | exact Nat.lt_of_sub_eq_succ hk' | omega +splitNatSub
    refine codeAny_builtin F.entry_set_update_loop ?_
    rw [Around.under_plainId F.plain_set_update_loop _]
    show wpAny _ A.in1 (pyNext (.ref I) >>= _) _ _ s
    refine wpAny_bind (W.item i s _ _ hlt hst fun v s' hP hst' hm => ?_)
    obtain ⟨p, hp, rfl⟩ := hval i v hP
    have hpm : p ∈ its := List.mem_of_getElem? hp
    have ho' := hm.heap S _ hSw ho
    show wpAny _ A.in1 (holding [p.2] (setAdd S p.2) >>= _) _ _ s'
    refine wpAny_bind (wpAny_holding ?_)
    unfold setAdd
    refine wpAny_holding ?_
    refine wpAny_bind (knd.pyHash (k := p.1) (hk p hpm).1 ?_)
    have hl1 : (ddv (its.take i)).length ≤ 1 := by
      have := ddv_length (its.take i)
      simp at this
      omega +splitNatSub
    refine addG (knd := knd) (s := { s' with toks := s'.toks + 1 }) (hk p hpm).1 (hk p hpm).2 ho' hG hl1 fun r h' o' hsb ho2 hG2 => ?_
    have htake : its.take (i + 1) = its.take i ++ [p] := by rw [List.take_add_one, hp]; rfl
    refine wpAny_pure ⟨plainId_quiet F.plain_set_update_loop _, ih (i + 1) _ o' (by first | exact se9 hk' | omega +splitNatSub) hlt (W.frame _ s' _ _ hst' (Nat.le_succ _) fun b hb o e => ?_) ho2 (by rw [htake, ddv_snoc]; exact hG2) fun s'' o'' hm'' ho'' hS'' => ?_⟩
    · rw [hsb.2 b (fun h : b = S => hSf (by rw [← h]; exact hb))]; exact e
    · refine hR s'' o'' (Moved.trans W.gtrans ((hm.mono hsub).then_heap (Nat.le_succ _) fun b o hb e => ?_) hm'') ho'' hS''
      rw [hsb.2 b (fun h : b = S => hb (by rw [h]; exact List.mem_cons_self))]; exact e
end

section
variable {prog : Program} {w : World} {K : Type} [DecidableEq K] {knd : KeyKind prog w K} {A : Around} {E : Value → Shared → Prop} {s : Shared}
theorem set_new_1 (a : Value) {Q₁ : Value → Shared → Prop}
    (h : Q₁ (.ref s.heap.objs.size) { s with heap := s.heap.push { cls := .type "set", dict := none, data := .set #[] 0 (.fresh 0 0 (!byT w)) } }) :
    codeAny (model prog w) A (.call (.builtin "set.__new__") ⟨[.type "set", a], []⟩) (wants Q₁ E) s := by
  refine codeAny_of_tree ?_
  show wpAny _ A.in1 (do checkBuiltinCall "set.__new__" ⟨[.type "set", a], []⟩; again (.builtin "set.__new__" ⟨[.type "set", a], []⟩)) _ _ s
  refine wpAny_bind (wpAny_of_eq (PySem.F.newCall_set_1 a) (wpAny_pure ⟨plainId_quiet PySem.F.plain_set_new _, codeAny_builtin PySem.F.entry_set_new ?_⟩))
  rw [Around.under_plainId PySem.F.plain_set_new _]
  unfold Builtin.«set.__new__» Builtin.Frozenset.newClass
  have hsub := sub_set_self
  obtain ⟨hp, g, d, tk, os⟩ := s
  dsimp only
  wp_walk
  refine wpAny_askSetting (wpAny_pure ?_)
  dsimp only
  simp only [newObj]
  refine wpAny_bind (wpAny_alloc (wpAny_pure ?_))
  exact wpAny_pure h

theorem SetG.fresh : SetG knd { cls := .type "set", dict := none, data := .set #[] 0 (.fresh 0 0 (!byT w)) } ([] : List (K × Value)) :=
  ⟨#[], 0, _, ⟨rfl, rfl, rfl⟩, rfl, fun e he => by simp at he, ⟨by simp [SetTable.fresh], rfl, rfl, by simp, fun p0 p1 e => by simp [SetTable.fresh] at e⟩, rfl, by simp, fun p hp => nomatch hp⟩

set_option maxHeartbeats 3200000 in
theorem call_setG {l : Addr} {its : List (K × Value)} {Q : Value → Shared → Prop}
    (hh : A.handled = none) (hl : s.heap.IsList l (its.map (·.2)).toArray) (hk : ∀ p ∈ its, knd.is p.1 p.2 = true ∧ p.2.scannable = true) (hb : its.length ≤ 2)
    (h : ∀ (h' : Heap) (tk : Nat) o, h'.get? s.heap.objs.size = some o → SetG knd o (ddv its) →
      (∀ b o, b < s.heap.objs.size → s.heap.get? b = some o → h'.get? b = some o) → Q (.ref s.heap.objs.size) { s with heap := h', toks := tk }) :
    wpAny (model prog w) A (call (.type "set") [.ref l]) Q E s := by
  obtain ⟨c, tl, hmro⟩ := PySem.F.called_set.mro
  have hmade := PySem.F.called_set.made
  have hsub := PySem.F.called_set.sub
  refine wpAny_call (codeAny_of_tree ?_)
  show wpAny _ _ (callAny (.type "set") _) _ _ _
  refine wpAny_pure ⟨Code.quiet_builtin _ (by decide +kernel), codeAny_builtin PySem.F.entry_type_call ?_⟩
  rw [Around.under_plain (weight_type_call_type "set" [.ref l] []) rfl]
  have h1 := PySem.F.called_set.notType
  have h2 := PySem.F.called_set.canCreate
  have hct := PySem.F.typeCall_set_1 (.ref l)
  repeat (any_goals (first | assumption | wp_step))
  refine codeAny_mono (set_new_1 (.ref l) (E := E) (Q₁ := fun obj s₁ => obj = .ref s.heap.objs.size ∧ s₁ = { s with heap := s.heap.push { cls := .type "set", dict := none, data := .set #[] 0 (.fresh 0 0 (!byT w)) } }) ⟨rfl, rfl⟩) fun r s₁ hr => ?_
  cases r with
  | error e => exact hr
  | ok fl =>
    cases fl with
    | ret obj =>
      obtain ⟨rfl, rfl⟩ := hr
      have hS : (s.heap.push { cls := .type "set", dict := none, data := .set #[] 0 (.fresh 0 0 (!byT w)) }).get? s.heap.objs.size = some { cls := .type "set", dict := none, data := .set #[] 0 (.fresh 0 0 (!byT w)) } := Heap.get?_push_size _ rfl
      have hT : Shared.TypeIs { s with heap := s.heap.push { cls := .type "set", dict := none, data := .set #[] 0 (.fresh 0 0 (!byT w)) } } (.ref s.heap.objs.size) "set" := ⟨_, hS, rfl⟩
      have hli := PySem.F.called_set.init.lookup
      have hbi := PySem.F.called_set.init.bind (.ref s.heap.objs.size)
      repeat (any_goals (first | assumption | wp_step))
      refine codeAny_mono (codeAny_call_builtin (R := wants (fun r s₂ => r = .none ∧ Ex2 fun h' tk => And3 (s₂ = { s with heap := h', toks := tk }) (∃ o, h'.get? s.heap.objs.size = some o ∧ SetG knd o (ddv its)) (∀ b o, b < s.heap.objs.size → s.heap.get? b = some o → h'.get? b = some o)) E) PySem.F.called_set.init.plain PySem.F.entry_set_init (check_set_init_1 hT ?_)) fun r₂ s₂ hr₂ => ?_
      · obtain ⟨ol, hol, hcl, nl, hdl⟩ := hl
        obtain ⟨ocls, odict, odata, oslots⟩ := ol
        simp only at hcl hdl
        subst hcl; subst hdl
        have hol' : (s.heap.push { cls := .type "set", dict := none, data := .set #[] 0 (.fresh 0 0 (!byT w)) }).get? l = some { cls := .type "list", dict := odict, data := .seq (its.map (·.2)).toArray nl, slots := oslots } := Heap.get?_push_of_some _ hol
        have hsls := PySem.F.sub_list_set
        have hslf := PySem.F.sub_list_frozenset
        have hne : (Value.type "list" == Value.type "dict") = false := by decide
        have hl1 : (s.heap.push { cls := .type "set", dict := none, data := .set #[] 0 (.fresh 0 0 (!byT w)) }).IsList l (its.map (·.2)).toArray := ⟨_, hol', rfl, nl, rfl⟩
        unfold Builtin.«set.__init__» noKeywords Builtin.Frozenset.updateFrom
        generalize hPI : pyIter = PI
        wp_walk
        subst hPI
        refine wpAny_pyIter_list hl1 ?_
        refine wpAny_bind (wpAny_runValue ?_)
        have hlS : l < s.heap.objs.size := Heap.lt_size hol
        have hh3 : A.in1.in1.in1.handled = none := by simp [hh]
        have hneI : l ≠ (s.heap.push { cls := .type "set", dict := none, data := .set #[] 0 (.fresh 0 0 (!byT w)) }).objs.size := by
          rw [Heap.size_push]; exact Nat.ne_of_lt (Nat.lt_succ_of_lt hlS)
        have hSf : s.heap.objs.size ∉ [(s.heap.push { cls := .type "set", dict := none, data := .set #[] 0 (.fresh 0 0 (!byT w)) }).objs.size, l] := by
          rw [Heap.size_push]; simp only [List.mem_cons, List.mem_singleton, List.not_mem_nil, or_false, not_or]
          exact ⟨Nat.ne_of_lt (Nat.lt_succ_self _), Nat.ne_of_gt hlS⟩
        have hval : ∀ (i : Nat) (v : Value), (its.map (·.2)).toArray[i]? = some v → ∃ p, its[i]? = some p ∧ v = p.2 := fun i v hv => by
          rw [List.getElem?_toArray, List.getElem?_map] at hv
          cases hq : its[i]? with
          | none => rw [hq] at hv; cases hv
          | some p => rw [hq] at hv; cases hv; exact ⟨p, rfl, rfl⟩
        refine set_loopG (knd := knd) (its := its) ((Walks.list hh3 _ l hneI (its.map (·.2)).toArray).toS) s.heap.objs.size
          hSf (by simp) hval hk hb ((its.map (·.2)).toArray.size - 0) 0 _ _ (by omega +splitNatSub) (Nat.zero_le _)
          ⟨⟨_, Heap.get?_push_size _ rfl, rfl, rfl⟩, (hl1.push _)⟩ (Heap.get?_push_of_some _ hS) SetG.fresh ?hR
        case hR =>
          intro s' o' hm ho' hS'
          obtain ⟨h', g', d', tk', os'⟩ := s'
          have eg : g' = s.gens := hm.gens
          have ed : d' = s.drawn := hm.drawn
          have eo : os' = s.os := hm.os
          subst eg; subst ed; subst eo
          show wpAny _ _ _ _ _ _
          refine wpAny_pure ?_
          show wpAny _ _ (ret Value.none) _ _ _
          refine wpAny_pure ⟨rfl, h', tk', rfl, ⟨o', ho', hS'⟩, fun b o hb e => ?_⟩
          have hb1 : b ≠ s.heap.objs.size := Nat.ne_of_lt hb
          have hb2 : b ≠ (s.heap.push { cls := .type "set", dict := none, data := .set #[] 0 (.fresh 0 0 (!byT w)) }).objs.size := by
            rw [Heap.size_push]; exact Nat.ne_of_lt (Nat.lt_succ_of_lt hb)
          exact hm.heap b o (by simp only [List.mem_cons, List.mem_singleton, List.not_mem_nil, or_false, not_or]; exact ⟨hb1, hb2⟩) (Heap.get?_push_of_some _ (Heap.get?_push_of_some _ e))
      · cases r₂ with
        | error e => exact hr₂
        | ok fl₂ =>
          cases fl₂ with
          | ret r =>
            obtain ⟨rfl, h', tk, rfl, ⟨o', ho', hS'⟩, hk'⟩ := hr₂
            repeat (any_goals (first | assumption | wp_step))
            exact h _ _ o' ho' hS' hk'
          | _ => exact hr₂.elim
    | _ => exact hr.elim
end

end

section
set_option maxHeartbeats 2000000
namespace SG
theorem slot_setit_next : PySem.Slot "set_iterator" "__next__" "set_iterator.__next__" :=
  .of (owner := "set_iterator") (n := "__next__") (by rw [typeLookup_type, builtinLookup_eq_fast]; kernel_rfl) (by decide +kernel) (by decide +kernel) (by decide +kernel)
    (by first | exact .inl (by decide +kernel) | exact .inr (by decide +kernel)) (by rw [isSubtype_type]; kernel_rfl)
theorem entry_setit_next : entryFor table "set_iterator.__next__" = some Builtin.«set_iterator.__next__» := entryFor_of_tree (by kernel_rfl)
theorem args_setit_next (a : Value) : argsOk "set_iterator.__next__" ⟨[a], []⟩ := by unfold argsOk; kernel_rfl
theorem slot_setit_iter : PySem.Slot "set_iterator" "__iter__" "set_iterator.__iter__" :=
  .of (owner := "set_iterator") (n := "__iter__") (by rw [typeLookup_type, builtinLookup_eq_fast]; kernel_rfl) (by decide +kernel) (by decide +kernel) (by decide +kernel)
    (by first | exact .inl (by decide +kernel) | exact .inr (by decide +kernel)) (by rw [isSubtype_type]; kernel_rfl)
theorem entry_setit_iter : entryFor table "set_iterator.__iter__" = some Builtin.«dict_keyiterator.__iter__» := entryFor_alias (id' := "dict_keyiterator.__iter__") (by kernel_rfl) rfl (by decide +kernel) (by kernel_rfl)
theorem args_setit_iter (a : Value) : argsOk "set_iterator.__iter__" ⟨[a], []⟩ := by unfold argsOk; kernel_rfl
theorem entry_set_iter : entryFor table "set.__iter__" = some Builtin.«frozenset.__iter__» := entryFor_alias (id' := "frozenset.__iter__") (by kernel_rfl) rfl (by decide +kernel) (by kernel_rfl)

theorem erase_perm {α : Type} : ∀ {l : List α} {i : Nat} (h : i < l.length), (l[i] :: l.eraseIdx i).Perm l
  | a :: r, 0, _ => List.Perm.refl _
  | a :: r, i + 1, h => by
    have := erase_perm (l := r) (i := i) (by simpa using h)
    simp only [List.getElem_cons_succ, List.eraseIdx_cons_succ]
    exact (List.Perm.swap _ _ _).trans (this.cons a)
theorem pickOrder_perm {α : Type} (next : Nat → Nat) (xs : Array α) : (pickOrder next xs).toList.Perm xs.toList := by
  have go : ∀ (fuel k : Nat) (left : List α) (out : Array α), left.length ≤ fuel → (pickOrder.go next fuel k left out).toList.Perm (out.toList ++ left) := by
    intro fuel
    induction fuel with
    | zero =>
      intro k left out h
      have : left = [] := List.length_eq_zero_iff.mp (Nat.le_zero.mp h)
      subst this
      simp [pickOrder.go]
    | succ n ih =>
      intro k left out h
      unfold pickOrder.go
      cases hl : left[next k % left.length]? with
      | none =>
        have : left = [] := by
          cases left with
          | nil => rfl
          | cons a r =>
            rw [List.getElem?_eq_none_iff] at hl
            exact absurd (Nat.mod_lt (next k) (by simp : 0 < (a :: r).length)) (Nat.not_lt.mpr hl)
        subst this
        simp
      | some x =>
        obtain ⟨hi, hx⟩ := List.getElem?_eq_some_iff.mp hl
        dsimp only
        refine (ih _ _ _ (by rw [List.length_eraseIdx]; split <;> omega +splitNatSub)).trans ?_
        rw [Array.toList_push, List.append_assoc]
        refine List.Perm.append_left _ ?_
        have := erase_perm hi
        rw [hx] at this
        exact this
  have := go xs.size 0 xs.toList #[] (by simp)
  simpa [pickOrder] using this

section
variable {M : Model} {A : Around} {E : Value → Shared → Prop} {s : Shared}
theorem wpAny_choose {src : Source} {n : Nat} {Q : Nat → Shared → Prop} (hn : n ≠ 0) (h : ∀ i d, i < n → Q i { s with drawn := d }) : wpAny M A (choose src n) Q E s := by
  intro Γ p hΓ
  unfold choose
  rw [Sem.wp_choose]
  exact ⟨hn, h _ _ (Nat.mod_lt _ (Nat.pos_of_ne_zero hn))⟩
theorem wpAny_drawOrder {α : Type} : ∀ (n : Nat) (xs : List α) {s : Shared} {Q : List α → Shared → Prop}, xs.length ≤ n → (∀ out d, out.Perm xs → Q out { s with drawn := d }) → wpAny M A (drawOrder n xs) Q E s := by
  intro n
  induction n with
  | zero =>
    intro xs s Q hn h
    have : xs = [] := List.length_eq_zero_iff.mp (Nat.le_zero.mp hn)
    subst this
    exact wpAny_pure (h [] s.drawn (List.Perm.refl _))
  | succ n ih =>
    intro xs s Q hn h
    cases xs with
    | nil => exact wpAny_pure (h [] s.drawn (List.Perm.refl _))
    | cons a r =>
      unfold drawOrder
      refine wpAny_bind (wpAny_choose (by simp) fun i d hi => ?_)
      have hx : (a :: r)[i]? = some ((a :: r)[i]) := List.getElem?_eq_getElem hi
      rw [hx]
      dsimp only
      refine wpAny_bind (ih _ (by rw [List.length_eraseIdx, if_pos hi]; simp at hn ⊢; omega +splitNatSub) fun out d' hp => ?_)
      exact wpAny_pure (h _ d' ((hp.cons _).trans (erase_perm hi)))
end

section
variable {prog : Program} {w : World} {A : Around} {E : Value → Shared → Prop} {s : Shared}
noncomputable abbrev itO (first : Value) (i : Nat) (S : Addr) (n ep : Nat) : Obj := { cls := .type "set_iterator", dict := none, data := .fields #[first, rawInt i, .ref S, rawInt n, rawInt ep], slots := #[] }
inductive Mode (w : World) (S ep : Nat) (es : Array (Int × Value)) (t : SetTable) (out : List Value) (i : Nat) (T : Addr) (h : Heap) : Value → Prop
  | text : byT w = true → out = (pickOrder (w.params.setOrder S ep) es).toList.map (·.2) → Mode w S ep es t out i T h (rawInt 0)
  | plain (sl : Nat) : byT w = false → t.led = true → (!t.plain && decide (es.size > 1)) = false → out = es.toList.map (·.2) → SetTable.below t.place sl = i → (∀ (k j : Nat), t.place[k]? = some j → SetTable.below t.place (j + 1) = k + 1) → t.place.size = es.size → Mode w S ep es t out i T h (rawInt sl)
  | drawn (pl : List Nat) : byT w = false → (Ex2 fun ot k => And3 (h.get? T = some ot) (ot.cls = .type "tuple") (ot.data = .seq (pl.map fun (p : Nat) => rawInt p).toArray k)) → pl.length = out.length → (∀ (k p : Nat), pl[k]? = some p → ∃ e : Int × Value, es[p]? = some e ∧ out[k]? = some e.2) → Mode w S ep es t out i T h (.ref T)
noncomputable def SetIt (w : World) (S I T : Addr) (out : List Value) (i : Nat) (h : Heap) : Prop :=
  Ex5 fun o es ep t first => And6 (h.get? S = some o) (o.data = .set es ep t) (t.fits es.size = true) (es.size = out.length) (h.get? I = some (itO first i S es.size ep)) (Mode w S ep es t out i T h first)

theorem Mode.mono {S ep : Nat} {es : Array (Int × Value)} {t : SetTable} {out : List Value} {i : Nat} {T : Addr} {h h' : Heap} {v : Value} (m : Mode w S ep es t out i T h v) (k : ∀ o, h.get? T = some o → h'.get? T = some o) : Mode w S ep es t out i T h' v := by
  cases m with
  | text a b => exact .text a b
  | plain sl a b c d e f g => exact .plain sl a b c d e f g
  | drawn pl a b c d => obtain ⟨ot, q, e, r, r2⟩ := b; exact .drawn pl a ⟨ot, q, k _ e, r, r2⟩ c d

theorem SetIt.typ {S I T : Addr} {out : List Value} {i : Nat} (x : SetIt w S I T out i s.heap) : s.TypeIs (.ref I) "set_iterator" := by
  obtain ⟨o, es, ep, t, first, _, _, _, _, e, _⟩ := x
  exact ⟨_, e, rfl⟩

theorem setIt_item {S I T : Addr} {out : List Value} {i : Nat} {x : Value} {Q : Option Value → Shared → Prop} (hit : SetIt w S I T out i s.heap) (hx : out[i]? = some x) (hSI : S ≠ I) (hTI : T ≠ I)
    (hQ : ∀ h', SetIt w S I T out (i + 1) h' → Heap.SameBut I s.heap h' → Q (some x) { s with heap := h' }) :
    wpAny (model prog w) A (pyNext (.ref I)) Q E s := by
  have hT := hit.typ
  obtain ⟨o, es, ep, t, first, ho, hd, hf, hn, hi, hm⟩ := hit
  unfold pyNext
  refine wpAny_bind (wpAny_attempt (wpAny_callSpecial?_slot (name := Str.ofString "__next__") hT slot_setit_next
    (wpAny_call_entry slot_setit_next hT entry_setit_next ?_ (args_setit_next _))))
  unfold Builtin.«set_iterator.__next__»
  have hsl : slotArgs "__next__" 0 ⟨[.ref I], []⟩ = pure (.ref I, []) := by rfl
  rw [hsl]
  refine wpAny_bind (wpAny_pure ?_)
  refine wpAny_bind (wpAny_fieldsOf hi rfl ?_)
  simp only [rawInt]
  refine wpAny_bind (wpAny_setEntries_of ho hd hf ?_)
  rw [if_neg (by simp)]
  have hiI : I < s.heap.objs.size := Heap.lt_size hi
  cases hm with
  | text hb hout =>
    have hb' : (model prog w).w.params.followText "set-order" = true := hb
    dsimp only [rawInt]
    unfold setNext
    refine wpAny_bind (wpAny_bind (wpAny_setState_of ho hd hf ?_))
    unfold setsByText
    refine wpAny_bind (wpAny_bind (wpAny_askSetting (wpAny_pure ?_)))
    dsimp only
    rw [if_pos hb', if_neg (by simp)]
    unfold setWalk
    refine wpAny_bind (wpAny_bind (wpAny_setState_of ho hd hf ?_))
    unfold setsByText
    refine wpAny_bind (wpAny_bind (wpAny_askSetting (wpAny_pure ?_)))
    dsimp only
    rw [if_pos hb']
    refine wpAny_bind (wpAny_askSetting (wpAny_pure (wpAny_pure ?_)))
    have hx2 : ∃ e, (pickOrder (w.params.setOrder S ep) es)[((i : Nat) : Int).toNat]? = some e ∧ e.2 = x := by
      rw [Int.toNat_natCast, ← Array.getElem?_toList]
      rw [hout, List.getElem?_map] at hx
      cases hq : (pickOrder (w.params.setOrder S ep) es).toList[i]? with
      | none => rw [hq] at hx; cases hx
      | some e => rw [hq] at hx; cases hx; exact ⟨e, rfl, rfl⟩
    obtain ⟨e, he, rfl⟩ := hx2
    rw [show (pickOrder ((model prog w).w.params.setOrder S ep) es)[((i : Nat) : Int).toNat]? = some e from he]
    dsimp only [Option.map]
    refine wpAny_bind (wpAny_setField_rec hi (by simp) fun h₁ hi₁ hs₁ => ?_)
    refine wpAny_bind (wpAny_setField_rec hi₁ (by simp) fun h₂ hi₂ hs₂ => wpAny_pure ⟨_, rfl, wpAny_pure ?_⟩)
    replace hi₂ : h₂.get? I = some (itO (rawInt 0) (i + 1) S es.size ep) := hi₂
    have hs : Heap.SameBut I s.heap h₂ := hs₁.trans hs₂
    exact hQ h₂ ⟨o, es, ep, t, _, (hs.2 _ hSI).trans ho, hd, hf, hn, hi₂, .text hb hout⟩ hs
  | plain sl hb hl hp hout hbl hup hps =>
    have hb' : (model prog w).w.params.followText "set-order" = false := hb
    dsimp only [rawInt]
    unfold setNext
    refine wpAny_bind (wpAny_bind (wpAny_setState_of ho hd hf ?_))
    unfold setsByText
    refine wpAny_bind (wpAny_bind (wpAny_askSetting (wpAny_pure ?_)))
    dsimp only
    rw [if_neg (by rw [hb']; exact Bool.false_ne_true)]
    split
    · rename_i hc; exact absurd (hc.symm.trans hp) (by decide)
    refine wpAny_bind ?_
    show wpAny _ _ (if (!t.led && !es.isEmpty) = true then _ else _) _ _ _
    rw [if_neg (by rw [hl]; simp)]
    refine wpAny_pure ?_
    rw [Int.toNat_natCast, hbl]
    obtain ⟨e, he, rfl⟩ : ∃ e, es[i]? = some e ∧ e.2 = x := by
      rw [← Array.getElem?_toList]
      rw [hout, List.getElem?_map] at hx
      cases hq : es.toList[i]? with
      | none => rw [hq] at hx; cases hx
      | some e => rw [hq] at hx; cases hx; exact ⟨e, rfl, rfl⟩
    obtain ⟨j, hj⟩ : ∃ j, t.place[i]? = some j := ⟨_, Array.getElem?_eq_getElem (by rw [hps]; exact (Array.getElem?_eq_some_iff.mp he).1)⟩
    rw [he, hj]
    refine wpAny_pure ?_
    dsimp only
    refine wpAny_bind (wpAny_setField_rec hi (by simp) fun h₁ hi₁ hs₁ => ?_)
    refine wpAny_bind (wpAny_setField_rec hi₁ (by simp) fun h₂ hi₂ hs₂ => wpAny_pure ⟨_, rfl, wpAny_pure ?_⟩)
    replace hi₂ : h₂.get? I = some (itO (rawInt ((j + 1 : Nat) : Int)) (i + 1) S es.size ep) := hi₂
    have hs : Heap.SameBut I s.heap h₂ := hs₁.trans hs₂
    exact hQ h₂ ⟨o, es, ep, t, _, (hs.2 _ hSI).trans ho, hd, hf, hn, hi₂, .plain (j + 1) hb hl hp hout (hup _ _ hj) hup hps⟩ hs
  | drawn pl hb hT' hpl hes =>
    obtain ⟨ot, k, hot, hct, hdt⟩ := hT'
    dsimp only [rawInt]
    refine wpAny_bind (wpAny_seqItems hot hdt ?_)
    have hlt : i < pl.length := by rw [hpl]; exact (List.getElem?_eq_some_iff.mp hx).1
    have hpi : ((pl.map fun (p : Nat) => rawInt p).toArray)[((i : Nat) : Int).toNat]? = some (rawInt ((pl[i] : Nat) : Int)) := by
      rw [Int.toNat_natCast]; simp [hlt]
    dsimp only
    rw [hpi]
    obtain ⟨e, he, hxe⟩ := hes i pl[i] (List.getElem?_eq_getElem hlt)
    rw [hx] at hxe; cases hxe
    dsimp only [rawInt]
    unfold setNextDrawn
    refine wpAny_bind (wpAny_bind (wpAny_setState_of ho hd hf ?_))
    dsimp only
    rw [if_neg (by simp)]
    rw [Int.toNat_natCast, he]
    refine wpAny_pure ?_
    refine wpAny_bind (wpAny_setField_rec hi (by simp) fun h₂ hi₂ hs => wpAny_pure ⟨_, rfl, wpAny_pure ?_⟩)
    replace hi₂ : h₂.get? I = some (itO (.ref T) (i + 1) S es.size ep) := hi₂
    replace hs : Heap.SameBut I s.heap h₂ := hs
    exact hQ h₂ ⟨o, es, ep, t, _, (hs.2 _ hSI).trans ho, hd, hf, hn, hi₂, .drawn pl hb ⟨ot, k, (hs.2 _ hTI).trans hot, hct, hdt⟩ hpl hes⟩ hs

theorem setIt_end {S I T : Addr} {out : List Value} {Q : Option Value → Shared → Prop} (hh : A.handled = none) (hit : SetIt w S I T out out.length s.heap) (hSI : S ≠ I) (hTI : T ≠ I)
    (hQ : ∀ h', Heap.ExtBut I s.heap h' → Q none { s with heap := h' }) :
    wpAny (model prog w) A (pyNext (.ref I)) Q E s := by
  have hT := hit.typ
  obtain ⟨o, es, ep, t, first, ho, hd, hf, hn, hi, hm⟩ := hit
  unfold pyNext
  refine wpAny_bind (wpAny_attempt (wpAny_callSpecial?_slot (name := Str.ofString "__next__") hT slot_setit_next
    (wpAny_call_entry slot_setit_next hT entry_setit_next ?_ (args_setit_next _))))
  unfold Builtin.«set_iterator.__next__»
  have hsl : slotArgs "__next__" 0 ⟨[.ref I], []⟩ = pure (.ref I, []) := by rfl
  rw [hsl]
  refine wpAny_bind (wpAny_pure ?_)
  refine wpAny_bind (wpAny_fieldsOf hi rfl ?_)
  simp only [rawInt]
  refine wpAny_bind (wpAny_setEntries_of ho hd hf ?_)
  rw [if_neg (by simp)]
  have hiI : I < s.heap.objs.size := Heap.lt_size hi
  have fin : ∀ {vs : Array Value} {s₁ : Shared} {P : Fin → Shared → Prop} (E' : Value → Shared → Prop), vs.size = 5 → s₁.heap.get? I = some { cls := .type "set_iterator", dict := none, data := .fields vs, slots := #[] } → Heap.SameBut I s.heap s₁.heap → s₁ = { s with heap := s₁.heap } →
      (∀ h' e, Heap.ExtBut I s.heap h' → (∃ o, h'.get? e = some o ∧ o.cls = .type "StopIteration") → E' (.ref e) { s with heap := h' }) →
      wpAny (model prog w) A.in1 (setField (Value.ref I) 2 Value.none >>= fun _ => newExc (Value.type "StopIteration") [] >>= fun x => raiseNew x) P E' s₁ := by
    intro vs s₁ P E' hvs h1 hs hse h
    refine wpAny_bind (wpAny_setField_rec h1 (by rw [hvs]; decide) fun h₂ hi₂ hs₂ => ?_)
    refine wpAny_bind ?_
    simp only [newExc, newTuple]
    refine wpAny_bind (wpAny_newObj_type ?_ (by size_fits))
    refine wpAny_bind (m := firstArgMember _ _) (wpAny_of_eq (a := Value.none) (by first | rfl | (simp only [firstArgMember]; rfl)) ?_)
    refine wpAny_newObj_type ?_ (by size_fits)
    simp only [raiseNew]
    refine wpAny_bind (wpAny_handled ?_)
    first | rw [show A.in1.handled = none from hh] | rw [hh]
    refine wpAny_bind (wpAny_pure (wpAny_throw ?_))
    rw [hse]
    exact h _ _ (((hs.trans hs₂).extBut.push _).push _) ⟨_, Heap.get?_push_size _ rfl, rfl⟩
  have stop : ∀ h' e, Heap.ExtBut I s.heap h' → (∃ o, h'.get? e = some o ∧ o.cls = .type "StopIteration") → wpAny (model prog w) A
            (do
              let __do_lift ← isInstance (.ref e) (Value.type "StopIteration")
              if __do_lift = true then pure none else throw (.ref e))
            Q E { s with heap := h' } := by
    intro h' e hk ⟨o, ho, hc⟩
    refine wpAny_bind (wpAny_isInstance (T := "StopIteration") (b := true) ⟨o, ho, hc⟩ isSubtype_stop ?_)
    exact wpAny_pure (hQ _ hk)
  cases hm with
  | text hb hout =>
    have hb' : (model prog w).w.params.followText "set-order" = true := hb
    dsimp only [rawInt]
    unfold setNext
    refine wpAny_bind (wpAny_bind (wpAny_setState_of ho hd hf ?_))
    unfold setsByText
    refine wpAny_bind (wpAny_bind (wpAny_askSetting (wpAny_pure ?_)))
    dsimp only
    rw [if_pos hb', if_neg (by simp)]
    unfold setWalk
    refine wpAny_bind (wpAny_bind (wpAny_setState_of ho hd hf ?_))
    unfold setsByText
    refine wpAny_bind (wpAny_bind (wpAny_askSetting (wpAny_pure ?_)))
    dsimp only
    rw [if_pos hb']
    refine wpAny_bind (wpAny_askSetting (wpAny_pure (wpAny_pure ?_)))
    have he : (pickOrder (w.params.setOrder S ep) es)[((out.length : Nat) : Int).toNat]? = none := by
      rw [Int.toNat_natCast, hout, List.length_map, Array.length_toList]
      exact Array.getElem?_eq_none (Nat.le_refl _)
    rw [show (pickOrder ((model prog w).w.params.setOrder S ep) es)[((out.length : Nat) : Int).toNat]? = none from he]
    dsimp only [Option.map]
    exact fin _ rfl hi (Heap.SameBut.refl _ _) rfl stop
  | plain sl hb hl hp hout hbl hup hps =>
    have hb' : (model prog w).w.params.followText "set-order" = false := hb
    dsimp only [rawInt]
    unfold setNext
    refine wpAny_bind (wpAny_bind (wpAny_setState_of ho hd hf ?_))
    unfold setsByText
    refine wpAny_bind (wpAny_bind (wpAny_askSetting (wpAny_pure ?_)))
    dsimp only
    rw [if_neg (by rw [hb']; exact Bool.false_ne_true)]
    split
    · rename_i hc; exact absurd (hc.symm.trans hp) (by decide)
    refine wpAny_bind ?_
    show wpAny _ _ (if (!t.led && !es.isEmpty) = true then _ else _) _ _ _
    rw [if_neg (by rw [hl]; simp)]
    refine wpAny_pure ?_
    rw [Int.toNat_natCast, hbl]
    have he : es[out.length]? = none := Array.getElem?_eq_none (by rw [hn]; exact Nat.le_refl _)
    rw [he]
    refine wpAny_pure ?_
    dsimp only
    exact fin _ rfl hi (Heap.SameBut.refl _ _) rfl stop
  | drawn pl hb hT' hpl hes =>
    obtain ⟨ot, k, hot, hct, hdt⟩ := hT'
    dsimp only [rawInt]
    refine wpAny_bind (wpAny_seqItems hot hdt ?_)
    have hpi : ((pl.map fun (p : Nat) => rawInt p).toArray)[((out.length : Nat) : Int).toNat]? = none := by
      rw [Int.toNat_natCast]; simp [hpl]
    dsimp only
    rw [hpi]
    dsimp only
    refine wpAny_bind (wpAny_setField_rec hi (by simp) fun h₁ hi₁ hs₁ => ?_)
    exact fin _ rfl hi₁ hs₁ rfl stop

theorem Walks_set (hh : A.handled = none) (I S T : Addr) (hSI : S ≠ I) (hTI : T ≠ I) (out : List Value) :
    Walks prog w A I [I, S, T] [I] out.length (fun i v => out[i]? = some v) (fun i h => SetIt w S I T out i h ∧ i ≤ out.length) where
  sub := by simp
  frame := fun i h h' st k => by
    obtain ⟨⟨o, es, ep, t, first, ho, hd, hf, hn, hi, hm⟩, hle⟩ := st
    exact ⟨⟨o, es, ep, t, first, k S (by simp) _ ho, hd, hf, hn, k I (by simp) _ hi, hm.mono (k T (by simp))⟩, hle⟩
  item := fun i s Q E hi st h => setIt_item st.1 (List.getElem?_eq_getElem hi) hSI hTI fun h' st' hs => h _ h' s.toks (List.getElem?_eq_getElem hi) ⟨st', hi⟩ fun b o hb e => hs.extBut b o (by simpa using hb) e
  done := fun s Q E st h => setIt_end hh st.1 hSI hTI fun h' hk => h h' s.toks fun b o hb e => hk b o (by simpa using hb) e
  self := fun i s Q E st h => by
    refine wpAny_pyIter_slot st.1.typ slot_setit_iter (wpAny_call_entry slot_setit_iter st.1.typ entry_setit_iter ?_ (args_setit_iter _))
    show wpAny _ _ (ret (.ref I)) _ _ s
    exact wpAny_pure ⟨_, rfl, "set_iterator", _, st.1.typ, slot_setit_next.lookup, h⟩

theorem rising_below {t : SetTable} {n : Nat} (T : Tame t n) : ∀ (k j : Nat), t.place[k]? = some j → SetTable.below t.place (j + 1) = k + 1 := by
  intro k j hj
  have hs := T.sz
  have hle := T.le
  have hk : k < t.place.size := (Array.getElem?_eq_some_iff.mp hj).1
  rcases Nat.lt_or_ge n 2 with h1 | h1
  · have : t.place.size = 1 := by omega +splitNatSub
    obtain ⟨p, hp⟩ := Array.size_eq_one_iff.mp this
    rw [hp] at hj ⊢
    have hk0 : k = 0 := by first | exact Nat.lt_one_iff.mp (this ▸ hk) | omega +splitNatSub
    subst hk0
    simp at hj
    rw [below1, if_pos (by omega +splitNatSub)]
  · have : t.place.size = 2 := by first | exact hs.trans (Nat.le_antisymm hle h1) | omega +splitNatSub
    obtain ⟨p, q, hp⟩ : ∃ p q, t.place = #[p, q] := by
      refine ⟨t.place[0], t.place[1], ?_⟩
      apply Array.ext
      · simp [this]
      · intro i h1 h2
        have : i = 0 ∨ i = 1 := by simp at h2; first | exact two9 h2 | exact two9 (Nat.lt_of_lt_of_eq h2 this) | exact two9 (Nat.lt_of_lt_of_eq h2 (hs.trans h1)) | omega +splitNatSub
        rcases this with rfl | rfl <;> rfl
    have hlt := T.up p q hp
    rw [hp] at hj ⊢
    have : k = 0 ∨ k = 1 := by first | exact two9 (Nat.lt_of_lt_of_eq hk this) | omega +splitNatSub
    rcases this with rfl | rfl
    · simp at hj
      rw [below2 _ _ _ hlt, if_neg (by omega +splitNatSub), if_pos (by omega +splitNatSub)]
    · simp at hj
      rw [below2 _ _ _ hlt, if_pos (by omega +splitNatSub)]

theorem pyIter_set {K : Type} [DecidableEq K] {knd : KeyKind prog w K} {S : Addr} {o : Obj} {ps : List (K × Value)} {Q : Value → Shared → Prop} (ho : s.heap.get? S = some o) (G : SetG knd o ps)
    (h : ∀ I T out h' d, out.Perm (ps.map (·.2)) → SetIt w S I T out 0 h' → S ≠ I → T ≠ I → (T = S ∨ s.heap.objs.size ≤ T) → (∀ b o, s.heap.get? b = some o → h'.get? b = some o) → s.heap.objs.size ≤ I → Q (.ref I) { s with heap := h', drawn := d }) :
    wpAny (model prog w) A (pyIter (.ref S)) Q E s := by
  obtain ⟨es, ep, t, hex, hd, hel, Tm, hled, hperm, hps⟩ := G
  have hT : s.TypeIs (.ref S) "set" := ⟨o, ho, hex.1⟩
  have hf := Tm.fits
  have hS : S < s.heap.objs.size := Heap.lt_size ho
  refine wpAny_pyIter_slot hT PySem.F.slot_set_iter (wpAny_call_entry PySem.F.slot_set_iter hT entry_set_iter ?_ (PySem.F.args_set_iter_1 _))
  unfold Builtin.«frozenset.__iter__»
  have hsl : Builtin.Frozenset.slot0 "__iter__" ⟨[.ref S], []⟩ = pure S := by rfl
  rw [hsl]
  refine wpAny_bind (wpAny_pure ?_)
  unfold Builtin.Frozenset.sizeOf
  refine wpAny_bind (wpAny_bind (wpAny_setEntries_of ho hd hf (wpAny_pure ?_)))
  unfold setDrawn
  refine wpAny_bind (wpAny_bind (wpAny_setState_of ho hd hf ?_))
  unfold setsByText
  refine wpAny_bind (wpAny_bind (wpAny_askSetting (wpAny_pure ?_)))
  dsimp only
  refine wpAny_pure ?_
  have hrange : (List.range es.size).length ≤ es.size := by simp
  cases hb : byT w with
  | true =>
    have hb' : (model prog w).w.params.followText "set-order" = true := hb
    rw [hb', if_neg (by simp)]
    refine wpAny_bind (wpAny_pure ?_)
    refine wpAny_bind (wpAny_setEpoch_of ho hd hf ?_)
    refine wpAny_bind (wpAny_newObj_type (wpAny_pure ⟨_, rfl, "set_iterator", _, ⟨_, Heap.get?_push_size _ rfl, rfl⟩, slot_setit_next.lookup, ?_⟩))
    have hp2 := ((pickOrder_perm (w.params.setOrder S ep) es).map (·.2)).trans hperm
    have hlen : es.size = ((pickOrder (w.params.setOrder S ep) es).toList.map (·.2)).length := by
      rw [List.length_map, (pickOrder_perm (w.params.setOrder S ep) es).length_eq, Array.length_toList]
    exact h _ S _ _ s.drawn hp2 ⟨o, es, ep, t, _, Heap.get?_push_of_some _ ho, hd, hf, hlen, Heap.get?_push_size _ rfl, .text hb rfl⟩ (Nat.ne_of_lt hS) (Nat.ne_of_lt hS) (.inl rfl) (fun b o e => Heap.get?_push_of_some _ e) (Nat.le_refl _)
  | false =>
    have hb' : (model prog w).w.params.followText "set-order" = false := hb
    rw [hb']
    cases hdr : (!t.plain && decide (es.size > 1)) with
    | false =>
      split
      · rename_i hc; exact absurd ((show (!t.plain && decide (es.size > 1)) = true from hc).symm.trans hdr) (by decide)
      refine wpAny_bind (wpAny_pure ?_)
      refine wpAny_bind (wpAny_setEpoch_of ho hd hf ?_)
      refine wpAny_bind (wpAny_newObj_type (wpAny_pure ⟨_, rfl, "set_iterator", _, ⟨_, Heap.get?_push_size _ rfl, rfl⟩, slot_setit_next.lookup, ?_⟩))
      have hb0 : SetTable.below t.place 0 = 0 := by
        have hs := Tm.sz
        have hle := Tm.le
        have h3 : es.size = 0 ∨ es.size = 1 ∨ es.size = 2 := by first | exact three9 hle | omega +splitNatSub
        rcases h3 with h1 | h1 | h1
        · rw [Array.size_eq_zero_iff.mp (hs.trans h1)]; rfl
        · obtain ⟨p, hp⟩ := Array.size_eq_one_iff.mp (hs.trans h1)
          rw [hp, below1, if_neg (by omega +splitNatSub)]
        · obtain ⟨p, q, hp⟩ : ∃ p q, t.place = #[p, q] := by
            refine ⟨t.place[0]'(by omega +splitNatSub), t.place[1]'(by omega +splitNatSub), ?_⟩
            apply Array.ext
            · simp [hs, h1]
            · intro i h1 h2
              have : i = 0 ∨ i = 1 := by simp at h2; first | exact two9 h2 | exact two9 (Nat.lt_of_lt_of_eq h2 this) | exact two9 (Nat.lt_of_lt_of_eq h2 (hs.trans h1)) | omega +splitNatSub
              rcases this with rfl | rfl <;> rfl
          rw [hp, below2 _ _ _ (Tm.up p q hp), if_neg (by omega +splitNatSub), if_neg (by omega +splitNatSub)]
      exact h _ S _ _ s.drawn hperm ⟨o, es, ep, t, _, Heap.get?_push_of_some _ ho, hd, hf, by simp, Heap.get?_push_size _ rfl, .plain 0 hb (by rw [hled, hb]; rfl) hdr rfl hb0 (rising_below Tm) Tm.sz⟩ (Nat.ne_of_lt hS) (Nat.ne_of_lt hS) (.inl rfl) (fun b o e => Heap.get?_push_of_some _ e) (Nat.le_refl _)
    | true =>
      split
      case isFalse hc => exact absurd hdr hc
      refine wpAny_bind (wpAny_drawOrder _ _ hrange fun pl d hpl => ?_)
      refine wpAny_bind (wpAny_newTuple ?_ (by rw [List.length_map, hpl.length_eq, List.length_range, sizeLine_eq]; have := Tm.le; omega +splitNatSub))
      refine wpAny_bind (wpAny_setEpoch_of (Heap.get?_push_of_some _ ho) hd hf ?_)
      refine wpAny_bind (wpAny_newObj_type (wpAny_pure ⟨_, rfl, "set_iterator", _, ⟨_, Heap.get?_push_size _ rfl, rfl⟩, slot_setit_next.lookup, ?_⟩))
      have hpr : ∀ p ∈ pl, p < es.size := fun p hp => List.mem_range.mp (hpl.mem_iff.mp hp)
      have hout : (pl.map fun p => ((es[p]?.map (·.2)).getD .none)).Perm (ps.map (·.2)) := by
        refine (hpl.map _).trans (List.Perm.trans ?_ hperm)
        have : (List.range es.size).map (fun p => ((es[p]?.map (·.2)).getD .none)) = es.toList.map (·.2) := by
          apply List.ext_getElem
          · simp
          · intro i h1 h2
            simp at h1
            simp [h1]
        rw [this]
      refine h _ s.heap.objs.size _ _ d hout ⟨o, es, ep, t, _, Heap.get?_push_of_some _ (Heap.get?_push_of_some _ ho), hd, hf, by rw [List.length_map, hpl.length_eq, List.length_range], Heap.get?_push_size _ rfl, .drawn pl hb ⟨_, 0, Heap.get?_push_of_some _ (Heap.get?_push_size _ rfl), rfl, rfl⟩ (by simp) ?_⟩ ?_ ?_ ?_ ?_ ?_
      · intro k p hk
        have hlt := hpr p (List.mem_of_getElem? hk)
        refine ⟨es[p], Array.getElem?_eq_getElem hlt, ?_⟩
        rw [List.getElem?_map, hk]
        simp [hlt]
      · rw [Heap.size_push]; exact Nat.ne_of_lt (Nat.lt_succ_of_lt hS)
      · rw [Heap.size_push]; exact Nat.ne_of_lt (Nat.lt_succ_self _)
      · exact .inr (Nat.le_refl _)
      · exact fun b o e => Heap.get?_push_of_some _ (Heap.get?_push_of_some _ e)
      · rw [Heap.size_push]; exact Nat.le_succ _
end
end SG

end

section
set_option maxHeartbeats 2000000
namespace SG
section
variable {prog : Program} {w : World} {A : Around} {E : Value → Shared → Prop} {s : Shared}
theorem wif_pos {α : Type} {M : Model} {c : Prop} [Decidable c] {a b : Sem α} {Q : α → Shared → Prop} (hc : c) (h : wpAny M A a Q E s) : wpAny M A (if c then a else b) Q E s := by rw [if_pos hc]; exact h
theorem wpAny_collect_set {K : Type} [DecidableEq K] {knd : KeyKind prog w K} {S : Addr} {o : Obj} {ps : List (K × Value)} {Q : List Value → Shared → Prop} (hh : A.handled = none) (ho : s.heap.get? S = some o) (G : SetG knd o ps)
    (h : ∀ out h' tk d, out.Perm (ps.map (·.2)) → s.heap.objs.size ≤ h'.objs.size → (∀ b o, s.heap.get? b = some o → h'.get? b = some o) → Q out { s with heap := h', toks := tk, drawn := d }) :
    wpAny (model prog w) A (collect (.ref S)) Q E s := by
  have hSlt : S < s.heap.objs.size := Heap.lt_size ho
  have hcls : o.cls = .type "set" := by obtain ⟨_, _, _, hex, _⟩ := G; exact hex.1
  unfold collect
  refine wpAny_bind (wpAny_runValue (codeAny_builtin PySem.F.entry_proto_collect ?_))
  rw [Around.under_plainId PySem.F.plain_proto_collect _]
  show wpAny _ A.in1 (newList [] >>= fun l => again (.builtin "list.__iadd__" ⟨[l, .ref S], []⟩)) _ _ s
  refine wpAny_bind (wpAny_newObj_type ?_)
  refine wpAny_pure ⟨plainId_quiet PySem.F.plain_list_iadd _, codeAny_builtin PySem.F.entry_list_iadd ?_⟩
  rw [Around.under_plainId PySem.F.plain_list_iadd _]
  generalize hH : s.heap.push { cls := .type "list", data := .seq ([] : List Value).toArray } = H
  have old : ∀ b o, s.heap.get? b = some o → H.get? b = some o := fun b o e => hH ▸ Heap.get?_push_of_some _ e
  have hD : H.get? s.heap.objs.size = some (seqObj "list" #[] 0) := hH ▸ Heap.get?_push_size _ rfl
  have h1 : Builtin.List.listSameRef (.ref s.heap.objs.size) (.ref S) = false := by simp [Builtin.List.listSameRef, Nat.ne_of_gt hSlt]
  show wpAny _ A.in1 (Builtin.List.listExtendWith (.ref s.heap.objs.size) (.ref S) (.ref s.heap.objs.size)) _ _ { s with heap := H }
  have hT : Shared.TypeIs { s with heap := H } (.ref S) "set" := ⟨o, old _ _ ho, hcls⟩
  unfold Builtin.List.listExtendWith
  refine wpAny_bind (wpAny_typeOf hT ?_)
  rw [if_neg (by rw [h1]; decide)]
  refine wpAny_bind (pyIter_set (s := { s with heap := H }) (old _ _ ho) G fun I T out h₁ d hperm hit hSI hTI hTlt k₁ hI => ?_)
  have hI' : s.heap.objs.size ≠ I := fun e => by
    have hl : s.heap.objs.size < H.objs.size := Heap.lt_size hD
    exact absurd hI (Nat.not_le.mpr (by rw [← e]; exact hl))
  have hT₁ : Shared.TypeIs { s with heap := h₁, drawn := d } (.ref S) "set" := ⟨o, k₁ _ _ (old _ _ ho), hcls⟩
  refine wpAny_bind (wpAny_holding ?_)
  unfold Builtin.List.listLengthHint
  refine wpAny_bind (wpAny_specialOf hT₁ PySem.F.slot_set_len.lookup ?_)
  dsimp only
  rw [show splitId "set.__len__" = some ("set", "__len__") from by decide +kernel]
  dsimp only
  refine wpAny_bind (wpAny_isInstance (b := true) hT₁ sub_set_self ?_)
  rw [if_neg (by decide)]
  refine wif_pos (by decide) ?_
  refine wpAny_bind (wpAny_typeOf hT₁ ?_)
  dsimp only
  refine wpAny_pure ?_
  refine wif_pos (by decide) ?_
  refine wpAny_bind (wpAny_rule ?_)
  have hD₁ : h₁.get? s.heap.objs.size = some (seqObj "list" #[] 0) := k₁ _ _ hD
  unfold Builtin.List.listTouch
  refine wpAny_bind (wpAny_bind (listUpdate_at (s := { s with heap := h₁, drawn := d }) (xs := #[]) (n := 0) hD₁ rfl ?_ (Nat.zero_le _) (by rw [sizeLine_eq]; decide)))
  have hD₂ := get?_update_seq hD₁ (fun x => x.push .none)
  refine listUpdate_at hD₂ rfl ?_ (by rw [sizeLine_eq]; decide) (by rw [sizeLine_eq]; decide)
  have hD₃ := get?_update_seq hD₂ (fun x => x.pop)
  have up : ∀ b o, b ≠ s.heap.objs.size → h₁.get? b = some o → ((h₁.update s.heap.objs.size (Obj.mapSeq fun x => x.push .none)).update s.heap.objs.size (Obj.mapSeq fun x => x.pop)).get? b = some o := fun b o hb e => by
    rw [Heap.get?_update_ne _ _ _ _ hb, Heap.get?_update_ne _ _ _ _ hb]; exact e
  generalize ((h₁.update s.heap.objs.size (Obj.mapSeq fun x => x.push .none)).update s.heap.objs.size (Obj.mapSeq fun x => x.pop)) = h₃ at hD₃ up ⊢
  have hTD : s.heap.objs.size ≠ T := fun e => by
    have hl : s.heap.objs.size < H.objs.size := Heap.lt_size hD
    rcases hTlt with h2 | h2
    · exact Nat.ne_of_gt hSlt (e.trans h2)
    · exact absurd h2 (Nat.not_le.mpr (by rw [← e]; exact hl))
  have hfp : s.heap.objs.size ∉ [I, S, T] := by
    simp only [List.mem_cons, List.not_mem_nil, or_false, not_or]
    exact ⟨hI', Nat.ne_of_gt hSlt, hTD⟩
  have W := (Walks_set (prog := prog) (w := w) (A := A.in1) (by simpa using hh) I S T hSI hTI out).toS
  have hlen : out.length ≤ 2 := by rw [hperm.length_eq, List.length_map]; exact G.len
  have hit3 : SetIt w S I T out 0 h₃ := by
    obtain ⟨o', es, ep, t, first, a1, a2, a3, a4, a5, a6⟩ := hit
    exact ⟨o', es, ep, t, first, up _ _ (Nat.ne_of_lt hSlt) a1, a2, a3, a4, up _ _ (Ne.symm hI') a5, a6.mono fun o e => up _ _ (Ne.symm hTD) e⟩
  refine wpAny_pure ⟨plainId_quiet PySem.F.plain_extend_loop _, codeAny_extend_loopS W (by rw [sizeLine_eq]; omega) s.heap.objs.size hfp _ out.length 0 { s with heap := h₃, drawn := d } _ _ rfl (Nat.zero_le _) ⟨hit3, Nat.zero_le _⟩ hD₃ (ItemsOf.nil _) fun s' acc' c' hm hS' hacc => ?_⟩
  show wpAny _ A (load s.heap.objs.size >>= _) _ _ s'
  refine wpAny_bind (wpAny_load hS' (wpAny_pure ?_))
  have hout : acc'.toList = out := by
    apply List.ext_getElem
    · rw [Array.length_toList]; exact hacc.1
    · intro i h1 h2
      have : out[i]? = some (acc'[i]'(by simpa using h1)) := hacc.2 i _ (by simp at h1; simp [h1])
      rw [List.getElem?_eq_getElem h2] at this
      simp at this ⊢
      exact this.symm
  rw [hout]
  obtain ⟨h', g', d', tk', os'⟩ := s'
  have eg : g' = s.gens := hm.gens
  have ed : d' = d := hm.drawn
  have eo : os' = s.os := hm.os
  subst eg; subst ed; subst eo
  refine h out h' tk' d' hperm (Nat.le_of_lt (Heap.lt_size hS')) fun b o e => ?_
  have hb : b < s.heap.objs.size := Heap.lt_size e
  have hbI : b ≠ I := fun q => by
    have : b < H.objs.size := Heap.lt_size (old _ _ e)
    exact absurd hI (Nat.not_le.mpr (by rw [← q]; exact this))
  exact hm.heap b o (by simp only [List.mem_cons, List.not_mem_nil, or_false, not_or]; exact ⟨Nat.ne_of_lt hb, hbI⟩) (up _ _ (Nat.ne_of_lt hb) (k₁ _ _ (old _ _ e)))

theorem sorted_set {K : Type} [DecidableEq K] {knd : PySem.KeyKind prog w K} {S : Addr} {o : Obj} {ps : List (K × Value)} {Q : Value → Shared → Prop} (Good : List Value → Array Value → Prop) (hh : A.handled = none) (ho : s.heap.get? S = some o) (G : SetG knd o ps)
    (hsort : ∀ (A' : Around) (vs : List Value) (s' : Shared) (a : Addr) (P : Fin → Shared → Prop), vs.Perm (ps.map (·.2)) → vs.length < 64 → s'.heap.get? a = some (seqObj "list" vs.toArray 0) → (∀ out, Good vs out → P (.done (.ret .none)) { s' with heap := sortedHeap s'.heap a vs out }) → wpAny (model prog w) A' (Builtin.«list.sort» ⟨[.ref a], []⟩) P E s')
    (h : ∀ (vs : List Value) (out : Array Value) h' tk d D e, vs.Perm (ps.map (·.2)) → Good vs out → (∀ b o, s.heap.get? b = some o → h'.get? b = some o) → s.heap.objs.size ≤ D → h'.get? D = some (seqObj "list" out e) → Q (.ref D) { s with heap := h', toks := tk, drawn := d }) :
    wpAny (model prog w) A (call (.builtin "sorted") [.ref S]) Q E s := by
  refine Calls.call_function_entry kind_sorted plain_sorted entry_sorted (args_sorted1 _) ?_
  unfold Builtin.«sorted»
  refine wpAny_bind (m := checkCount "sorted" 1 1 _) (wpAny_pure ?_)
  refine wpAny_bind (wpAny_collect_set (by simpa using hh) ho G fun vs h₁ tk d hp hle k₁ => ?_)
  have hl : vs.length ≤ 2 := by rw [hp.length_eq, List.length_map]; exact G.len
  refine wpAny_bind (wpAny_newList ?_ (by rw [sizeLine_eq]; omega))
  have hoL : (h₁.push (seqObj "list" vs.toArray 0)).get? h₁.objs.size = some (seqObj "list" vs.toArray 0) := Heap.get?_push_size _ rfl
  show wpAny _ _ _ _ _ { s with heap := h₁.push (seqObj "list" vs.toArray 0), toks := tk, drawn := d }
  refine wpAny_bind (wpAny_holding (wpAny_call_entry slot_list_sort ⟨_, hoL, rfl⟩ entry_list_sort (hsort _ vs _ _ _ hp (by omega) hoL fun out hg => ⟨_, rfl, ?_⟩) (args_list_sort _)))
  obtain ⟨e, he⟩ := sortedHeap_at (out := out) hoL
  refine wpAny_pure ⟨_, rfl, h vs out _ tk d _ e hp hg (fun b o q => ?_) hle he⟩
  have hb := Heap.lt_size (k₁ b o q)
  show (sortedHeap _ _ _ _).get? b = _
  rw [sortedHeap_old (Nat.ne_of_lt hb) (by rw [size_push']; exact Nat.lt_succ_of_lt hb)]
  exact Heap.get?_push_of_some _ (k₁ b o q)

variable {h₀ : Heap} {L : Addr} {m : Str → Option Value} {news : Led}
theorem strs_of {ps : List (Str × Value)} (hk : ∀ p ∈ ps, (PySem.strKind prog w).is p.1 p.2 = true) {vs : List Value} (hp : vs.Perm (ps.map (·.2))) : StrsAre vs (vs.map strOf) ∧ (vs.map strOf).Perm (ps.map (·.1)) := by
  refine ⟨strsAre_map vs fun v hv => ?_, ?_⟩
  · obtain ⟨p, hp', rfl⟩ := List.mem_map.mp (hp.mem_iff.mp hv)
    obtain ⟨t, e⟩ := Value.isStrOf_shape (hk p hp')
    exact ⟨_, t, e⟩
  · refine (hp.map strOf).trans (List.Perm.of_eq ?_)
    rw [List.map_map]
    refine List.map_congr_left fun p hp' => ?_
    obtain ⟨t, e⟩ := Value.isStrOf_shape (hk p hp')
    show strOf p.2 = p.1
    rw [e]; rfl
theorem ints_of {ps : List (Int × Value)} (hk : ∀ p ∈ ps, (PySem.intKind prog w).is p.1 p.2 = true) {vs : List Value} (hp : vs.Perm (ps.map (·.2))) : IntsAre vs (vs.map numOf) ∧ (vs.map numOf).Perm (ps.map (·.1)) := by
  refine ⟨intsAre_map vs fun v hv => ?_, ?_⟩
  · obtain ⟨p, hp', rfl⟩ := List.mem_map.mp (hp.mem_iff.mp hv)
    obtain ⟨t, e⟩ := Value.isInt_shape (hk p hp')
    exact ⟨_, t, e⟩
  · refine (hp.map numOf).trans (List.Perm.of_eq ?_)
    rw [List.map_map]
    refine List.map_congr_left fun p hp' => ?_
    obtain ⟨t, e⟩ := Value.isInt_shape (hk p hp')
    show numOf p.2 = p.1
    rw [e]; rfl
theorem SetG.keys {K : Type} [DecidableEq K] {knd : PySem.KeyKind prog w K} {o : Obj} {ps : List (K × Value)} (G : SetG knd o ps) : ∀ p ∈ ps, knd.is p.1 p.2 = true := by
  obtain ⟨_, _, _, _, _, _, _, _, _, h⟩ := G; exact h
theorem SetG.set {K : Type} [DecidableEq K] {knd : PySem.KeyKind prog w K} {o : Obj} {ps : List (K × Value)} (G : SetG knd o ps) : o.cls = .type "set" := by
  obtain ⟨_, _, _, h, _⟩ := G; exact h.1
theorem led_new {h' : Heap} {D : Addr} {o : Obj} {h : Heap} (F : Fr h₀ L h m) (N : News h₀ L h news) (k : ∀ b o, h.get? b = some o → h'.get? b = some o) (hD : h.objs.size ≤ D) (e : h'.get? D = some o) :
    Fr h₀ L h' m ∧ News h₀ L h' ((D, o) :: news) ∧ (∀ p ∈ news, p.1 < D) := by
  refine ⟨F.keeps k, fun p hp => ?_, fun p hp => Nat.lt_of_lt_of_le (Heap.lt_size (N p hp).1) hD⟩
  rcases List.mem_cons.mp hp with rfl | hp
  · refine ⟨e, Nat.ne_of_gt (Nat.lt_of_lt_of_le F.ns.lt hD), ?_⟩
    show h₀.get? D = none
    cases q : h₀.get? D with
    | none => rfl
    | some o => exact absurd (Nat.lt_of_lt_of_le (Heap.lt_size (F.keep _ _ q)) hD) (Nat.lt_irrefl _)
  · exact ⟨k _ _ (N p hp).1, (N p hp).2⟩

theorem sorted_set_strs {S : Addr} {o : Obj} {ps : List (Str × Value)} {Q : Value → Shared → Prop} (hh : A.handled = none) (F : Fr h₀ L s.heap m) (N : News h₀ L s.heap news) (hm : (S, o) ∈ news) (G : SetG (PySem.strKind prog w) o ps)
    (h : ∀ h' tk d D vs ss e, Fr h₀ L h' m → News h₀ L h' ((D, W.listOf vs.toArray e) :: news) → (∀ p ∈ news, p.1 < D) → StrsAre vs ss → ss.Perm (ps.map (·.1)) → sortedS ss = true → Q (.ref D) { s with heap := h', toks := tk, drawn := d }) :
    wpAny (model prog w) A (call (.builtin "sorted") [.ref S]) Q E s := by
  have hk := SetG.keys G
  refine sorted_set (fun vs out => Ex1 fun ss => And3 (StrsAre out.toList ss) (ss.Perm (ps.map (·.1))) (sortedS ss = true)) hh (N _ hm).1 G (fun A' vs s' a P hp h64 hoL hP => ?_) fun vs out h' tk d D e hp ⟨ss, b1, b2, b3⟩ k hD he => ?_
  · obtain ⟨hS, hS2⟩ := strs_of (prog := prog) (w := w) hk hp
    refine list_sort_treeK strKind_oneLt hoL hS.keysOf (fun v₁ v₂ rest e => keyKind_strs (by rw [← e]; exact hS)) h64 fun st' a1 a2 => hP _ ?_
    obtain ⟨ss', b1, b2, b3⟩ := sorted_out_str hS a1 a2
    exact ⟨ss', b1, b2.trans hS2, b3⟩
  · obtain ⟨F', N', lt⟩ := led_new F N k hD he
    exact h h' tk d D out.toList ss e F' (by rw [Array.toArray_toList]; exact N') lt b1 b2 b3

theorem sorted_set_ints {S : Addr} {o : Obj} {ps : List (Int × Value)} {Q : Value → Shared → Prop} (hh : A.handled = none) (F : Fr h₀ L s.heap m) (N : News h₀ L s.heap news) (hm : (S, o) ∈ news) (G : SetG (PySem.intKind prog w) o ps)
    (h : ∀ h' tk d D vs ns e, Fr h₀ L h' m → News h₀ L h' ((D, W.listOf vs.toArray e) :: news) → (∀ p ∈ news, p.1 < D) → IntsAre vs ns → ns.Perm (ps.map (·.1)) → Q (.ref D) { s with heap := h', toks := tk, drawn := d }) :
    wpAny (model prog w) A (call (.builtin "sorted") [.ref S]) Q E s := by
  have hk := SetG.keys G
  refine sorted_set (fun vs out => ∃ ns, IntsAre out.toList ns ∧ ns.Perm (ps.map (·.1))) hh (N _ hm).1 G (fun A' vs s' a P hp h64 hoL hP => ?_) fun vs out h' tk d D e hp ⟨ss, b1, b2⟩ k hD he => ?_
  · obtain ⟨hS, hS2⟩ := ints_of (prog := prog) (w := w) hk hp
    exact list_sort_tree hoL hS h64 fun out ns' a1 a2 _ => hP _ ⟨ns', a1, a2.trans hS2⟩
  · obtain ⟨F', N', lt⟩ := led_new F N k hD he
    exact h h' tk d D out.toList ss e F' (by rw [Array.toArray_toList]; exact N') lt b1 b2

theorem zip_strs : ∀ {vs : List Value} {ss : List Str}, StrsAre vs ss → (ss.zip vs).map (·.2) = vs ∧ (∀ p ∈ ss.zip vs, (PySem.strKind prog w).is p.1 p.2 = true ∧ p.2.scannable = true)
  := by
  intro _ _ h
  induction h with
  | nil => exact ⟨rfl, fun _ h => nomatch h⟩
  | cons y t r ih =>
    obtain ⟨a, b⟩ := ih
    refine ⟨by simp only [List.zip_cons_cons, List.map_cons, a], fun p hp => ?_⟩
    rcases List.mem_cons.mp hp with rfl | hp
    · exact ⟨strKind_is _ _ _ _, rfl⟩
    · exact b p hp
theorem zip_ints : ∀ {vs : List Value} {ns : List Int}, IntsAre vs ns → (ns.zip vs).map (·.2) = vs ∧ (∀ p ∈ ns.zip vs, (PySem.intKind prog w).is p.1 p.2 = true ∧ p.2.scannable = true)
  := by
  intro _ _ h
  induction h with
  | nil => exact ⟨rfl, fun _ h => nomatch h⟩
  | cons y t r ih =>
    obtain ⟨a, b⟩ := ih
    refine ⟨by simp only [List.zip_cons_cons, List.map_cons, a], fun p hp => ?_⟩
    rcases List.mem_cons.mp hp with rfl | hp
    · exact ⟨intKind_is _ _ _ _, rfl⟩
    · exact b p hp

theorem set_of_strs {l : Addr} {vs : List Value} {ss : List Str} {n : Nat} {Q : Value → Shared → Prop} (hh : A.handled = none) (F : Fr h₀ L s.heap m) (N : News h₀ L s.heap news) (hm : (l, W.listOf vs.toArray n) ∈ news) (hS : StrsAre vs ss) (hb : ss.length ≤ 2)
    (h : ∀ h' tk S o, Fr h₀ L h' m → News h₀ L h' ((S, o) :: news) → (∀ p ∈ news, p.1 < S) → SetG (PySem.strKind prog w) o (ddv (ss.zip vs)) → Q (.ref S) { s with heap := h', toks := tk }) :
    wpAny (model prog w) A (call (.type "set") [.ref l]) Q E s := by
  obtain ⟨z1, z2⟩ := zip_strs (prog := prog) (w := w) hS
  refine call_setG (its := ss.zip vs) hh (by rw [z1]; exact ⟨_, (N _ hm).1, rfl, n, rfl⟩) z2 (by rw [List.length_zip]; omega) fun h' tk o ho G k => ?_
  obtain ⟨F', N', lt⟩ := led_new F N (fun b o e => k b o (Heap.lt_size e) e) (Nat.le_refl _) ho
  exact h h' tk _ o F' N' lt G
theorem set_of_ints {l : Addr} {vs : List Value} {ns : List Int} {n : Nat} {Q : Value → Shared → Prop} (hh : A.handled = none) (F : Fr h₀ L s.heap m) (N : News h₀ L s.heap news) (hm : (l, W.listOf vs.toArray n) ∈ news) (hS : IntsAre vs ns) (hb : ns.length ≤ 2)
    (h : ∀ h' tk S o, Fr h₀ L h' m → News h₀ L h' ((S, o) :: news) → (∀ p ∈ news, p.1 < S) → SetG (PySem.intKind prog w) o (ddv (ns.zip vs)) → Q (.ref S) { s with heap := h', toks := tk }) :
    wpAny (model prog w) A (call (.type "set") [.ref l]) Q E s := by
  obtain ⟨z1, z2⟩ := zip_ints (prog := prog) (w := w) hS
  refine call_setG (its := ns.zip vs) hh (by rw [z1]; exact ⟨_, (N _ hm).1, rfl, n, rfl⟩) z2 (by rw [List.length_zip]; omega) fun h' tk o ho G k => ?_
  obtain ⟨F', N', lt⟩ := led_new F N (fun b o e => k b o (Heap.lt_size e) e) (Nat.le_refl _) ho
  exact h h' tk _ o F' N' lt G
theorem len_set {K : Type} [DecidableEq K] {knd : PySem.KeyKind prog w K} {S : Addr} {o : Obj} {ps : List (K × Value)} {Q : Value → Shared → Prop} (N : News h₀ L s.heap news) (hm : (S, o) ∈ news) (G : SetG knd o ps)
    (h : Q (.int ps.length (s.toks + 1)) { s with toks := s.toks + 1 + 1 }) : wpAny (model prog w) A (call (.builtin "len") [.ref S]) Q E s := by
  have hl := G.len
  obtain ⟨es, ep, t, hex, hd, hel, T, hled, hperm, hps⟩ := G
  have hsz : es.size = ps.length := by have := hperm.length_eq; simpa using this
  refine call_len_set (N _ hm).1 hex hd T.fits (by omega) ?_
  rw [hsz]; exact h
end
end SG

end
theorem ln_MV_9 : True := by
  k_with "call type:set" => (((k_here; (with_reducible show wpAny _ _ (call (Value.type _) [Value.ref _]) _ _ _); k_dflt (first | (refine' SG.set_of_strs ?hhq9 ?Fq9 ?Nq9 ?mq9 ?Sq9 ?bq9 ?_; (case Sq9 => assumption); (case hhq9 => exact rfl); (case Fq9 => k_asm); (case Nq9 => k_asm); (case mq9 => k_mem); (case bq9 => assumption)) | (refine' SG.set_of_ints ?hhq9 ?Fq9 ?Nq9 ?mq9 ?Sq9 ?bq9 ?_; (case Sq9 => assumption); (case hhq9 => exact rfl); (case Fq9 => k_asm); (case Nq9 => k_asm); (case mq9 => k_mem); (case bq9 => assumption))); (intro _ _ _ _ _ _ l1q9 _); (try k_lt l1q9))) <;> walk_at "hide9a")
  k_with "call builtin:sorted" => (((k_here; (with_reducible show wpAny _ _ (call (Value.builtin _) [Value.ref _]) _ _ _); k_dflt (first | (refine' SG.sorted_set_strs ?hhq9 ?Fq9 ?Nq9 ?mq9 ?Gq9 ?_; (case Gq9 => assumption); (case hhq9 => exact rfl); (case Fq9 => k_asm); (case Nq9 => k_asm); (case mq9 => k_mem); (intro _ _ _ _ _ _ _ _ _ l1q9 _ _ _); (try k_lt l1q9)) | (refine' SG.sorted_set_ints ?hhq9 ?Fq9 ?Nq9 ?mq9 ?Gq9 ?_; (case Gq9 => assumption); (case hhq9 => exact rfl); (case Fq9 => k_asm); (case Nq9 => k_asm); (case mq9 => k_mem); (intro _ _ _ _ _ _ _ _ _ l1q9 _ _); (try k_lt l1q9))))) <;> walk_at "hide9a")
  k_with "call builtin:len" => (k_here; (with_reducible show wpAny _ _ (call (Value.builtin _) [Value.ref _]) _ _ _); k_dflt (refine' SG.len_set ?Nq9 ?mq9 ?Gq9 ?_; (case Gq9 => assumption); (case Nq9 => k_asm); (case mq9 => k_mem)))
  exact True.intro

section
set_option maxHeartbeats 2000000
open PyProof.Rows.LCg

structure CV (h₀ : Heap) (L : Addr) (m : Str → Option Value) (C D : Addr) (mC : Str → Option Value) (ys : List Value) (news : Led) (h : Heap) : Prop where
  F : Fr h₀ L h m
  N : News h₀ L h news
  ns : h.Ns C mC
  acc : h.get? D = some (lst ys)
  offC : ∀ p ∈ news, p.1 ≠ C
  offD : ∀ p ∈ news, p.1 ≠ D
  CD : C ≠ D
  CL : C ≠ L
  DL : D ≠ L
  C0 : h₀.get? C = none
  D0 : h₀.get? D = none

namespace CV
variable {h₀ h h' : Heap} {L C D : Addr} {m mC mC' : Str → Option Value} {ys : List Value} {news news' : Led}
theorem grow (V : CV h₀ L m C D mC ys news h) (k : ∀ b o, h.get? b = some o → h'.get? b = some o) : CV h₀ L m C D mC ys news h' :=
  ⟨V.F.keeps k, News.grown V.N k, V.ns.keeps k, k _ _ V.acc, V.offC, V.offD, V.CD, V.CL, V.DL, V.C0, V.D0⟩
theorem sub (V : CV h₀ L m C D mC ys news h) (k : ∀ p ∈ news', p ∈ news) : CV h₀ L m C D mC ys news' h :=
  ⟨V.F, News_sub V.N k, V.ns, V.acc, fun p hp => V.offC p (k p hp), fun p hp => V.offD p (k p hp), V.CD, V.CL, V.DL, V.C0, V.D0⟩
theorem add (V : CV h₀ L m C D mC ys news h) {a : Addr} {o : Obj} (e : h.get? a = some o) (aC : a ≠ C) (aD : a ≠ D) (aL : a ≠ L) (a0 : h₀.get? a = none) : CV h₀ L m C D mC ys ((a, o) :: news) h :=
  ⟨V.F, fun p hp => (List.mem_cons.mp hp).elim (fun q => q ▸ ⟨e, aL, a0⟩) (V.N p), V.ns, V.acc, fun p hp => (List.mem_cons.mp hp).elim (fun q => q ▸ aC) (V.offC p), fun p hp => (List.mem_cons.mp hp).elim (fun q => q ▸ aD) (V.offD p), V.CD, V.CL, V.DL, V.C0, V.D0⟩
theorem fresh (V : CV h₀ L m C D mC ys news h) {a : Addr} (ha : h.objs.size ≤ a) : h₀.get? a = none := by
  cases q : h₀.get? a with
  | none => rfl
  | some o => exact absurd (Heap.lt_size (V.F.keep _ _ q)) (Nat.not_lt.mpr ha)
theorem ltC (V : CV h₀ L m C D mC ys news h) : C < h.objs.size := V.ns.lt
theorem ltD (V : CV h₀ L m C D mC ys news h) : D < h.objs.size := Heap.lt_size V.acc
theorem ltL (V : CV h₀ L m C D mC ys news h) : L < h.objs.size := V.F.ns.lt
theorem lt (V : CV h₀ L m C D mC ys news h) : ∀ p ∈ news, p.1 < h.objs.size := fun p hp => Heap.lt_size (V.N p hp).1
theorem push (V : CV h₀ L m C D mC ys news h) (o : Obj) (hf : o.isFreed = false := by rfl) : CV h₀ L m C D mC ys ((h.objs.size, o) :: news) (h.push o) :=
  (V.grow (h' := h.push o) fun _ _ e => Heap.get?_push_of_some _ e).add (Heap.get?_push_size _ hf) (Nat.ne_of_gt V.ltC) (Nat.ne_of_gt V.ltD) (Nat.ne_of_gt V.ltL) (V.fresh (Nat.le_refl _))
theorem but (V : CV h₀ L m C D mC ys news h) {I : Addr} (k : ∀ b o, b ≠ I → h.get? b = some o → h'.get? b = some o) (IC : C ≠ I) (ID : D ≠ I) (IL : L ≠ I) (I0 : h₀.get? I = none) (off : ∀ p ∈ news, p.1 ≠ I) : CV h₀ L m C D mC ys news h' :=
  ⟨fr_but V.F (fun b o hb e => k b o (by simpa using hb) e) IL I0, fun p hp => ⟨k _ _ (off p hp) (V.N p hp).1, (V.N p hp).2⟩, V.ns.at' (fun o e => k _ o IC e), k _ _ ID V.acc, V.offC, V.offD, V.CD, V.CL, V.DL, V.C0, V.D0⟩
theorem setC (V : CV h₀ L m C D mC ys news h) (hs : Heap.SameBut C h h') (hn : h'.Ns C mC') : CV h₀ L m C D mC' ys news h' :=
  ⟨V.F.change hs V.CL V.C0, fun p hp => ⟨hs.extBut _ _ (V.offC p hp) (V.N p hp).1, (V.N p hp).2⟩, hn, hs.extBut _ _ (Ne.symm V.CD) V.acc, V.offC, V.offD, V.CD, V.CL, V.DL, V.C0, V.D0⟩
theorem setD (V : CV h₀ L m C D mC ys news h) {ys' : List Value} (hs : Heap.SameBut D h h') (hn : h'.get? D = some (lst ys')) : CV h₀ L m C D mC ys' news h' :=
  ⟨V.F.change hs V.DL V.D0, fun p hp => ⟨hs.extBut _ _ (V.offD p hp) (V.N p hp).1, (V.N p hp).2⟩, V.ns.sameBut hs V.CD, hn, V.offC, V.offD, V.CD, V.CL, V.DL, V.C0, V.D0⟩
end CV

section
variable {prog : Program} {w : World} {A : Around} {E : Value → Shared → Prop} {h₀ : Heap} {L C D : Addr} {m mC : Str → Option Value} {ys : List Value} {news : Led} {s : Shared}

theorem cv_append {y : Value} {Q : Value → Shared → Prop} (V : CV h₀ L m C D mC ys news s.heap) (hsz : ys.length ≤ sizeLine)
    (h : ∀ h', CV h₀ L m C D mC (ys ++ [y]) news h' → Q .none { s with heap := h' }) : wpAny (model prog w) A (call (.builtin "list.append") [.ref D, y]) Q E s := by
  refine append_at (hsz := by show ys.toArray.size ≤ sizeLine; rw [List.size_toArray]; exact hsz) V.acc fun h' hs hD => h h' (V.setD hs (hD.trans (congrArg some (lst_snoc ys y))))

theorem cv_store {cenv : Env} {x : Str} {px : Pos} {v : Value} {Q : Unit → Shared → Prop} (V : CV h₀ L m C D mC ys news s.heap) (hC : cenv.locals = C) (hk : cenv.scope.kind = .function) (hx : cenv.kindOf x = some .local)
    (h : ∀ h', CV h₀ L m C D (fun y => if y = x then some v else mC y) ys news h' → Q () { s with heap := h', toks := s.toks + 1 }) : wpAny (model prog w) A (assign (.Name x px) cenv v) Q E s := by
  subst hC
  exact wpAny_assign_Name (wpAny_storeName_local hx V.ns (fun h' hn hs => h h' (V.setC hs hn)) (by rw [hk]; rfl))

theorem cv_name {cenv : Env} {x : Str} {px : Pos} {v : Value} {Q : Value → Shared → Prop} (V : CV h₀ L m C D mC ys news s.heap) (hC : cenv.locals = C) (hk : cenv.scope.kind = .function) (hx : cenv.kindOf x = some .local)
    (hv : mC x = some v) (h : Q v s) (hd : (x == ("__debug__" : Str)) = false) : wpAny (model prog w) A (eval (.Name x px) cenv) Q E s := by
  subst hC
  exact wpAny_Name (wpAny_loadName_local hk hx V.ns hv h) hd

theorem cv_loop {e : PySem.Expr} {d : Nat} {pos : Pos} {cenv : Env} {body : Value → Sem Fin} {I : Addr} {fp : List Addr} {n : Nat} {P : Nat → Value → Prop} {St : Nat → Heap → Prop} {R : Result → Shared → Prop} (J : Nat → List Value → Led → Prop)
    (W : Walks prog w A I fp [I] n P St) (hIo : ∀ i h, St i h → ∃ o, h.get? I = some o)
    (hSt : ∀ i h h' o nw, St i h → h.get? I = some o → h'.get? I = some o → (∀ p ∈ news, p ∈ nw) → News h₀ L h' nw → St i h')
    (hden : (model prog w).den (.compLoop e d (.ref I) (.ref D) cenv) = (compTurn e d (.ref I) (.ref D) cenv).onRaise (fun x => do noteFrame x cenv; theTreesLotGoes x))
    (hund : A.under (.compLoop e d (.ref I) (.ref D) cenv) = A)
    (hturn : compTurn e d (.ref I) (.ref D) cenv = standAt pos >>= fun _ => pyNext (.ref I) >>= fun r => match r with
      | none => pure (.done .next)
      | some v => body v)
    (hq : (Code.compLoop e d (.ref I) (.ref D) cenv).quiet = true)
    (hbody : ∀ i v ys nw oI h tk dr mC (E' : Value → Shared → Prop), i < n → P i v → J i ys nw → (∀ p ∈ news, p ∈ nw) → CV h₀ L m C D mC ys ((I, oI) :: nw) h → St (i + 1) h → (∀ p ∈ nw, p.1 ≠ I) →
      wpAny (model prog w) A (body v) (fun fin s' => fin = .again (.compLoop e d (.ref I) (.ref D) cenv) ∧ Ex6 fun ys' nw' h' tk' dr' mC' => And5 (s' = { s with heap := h', toks := tk', drawn := dr' }) (CV h₀ L m C D mC' ys' ((I, oI) :: nw') h') (∀ p ∈ nw, p ∈ nw') (∀ p ∈ nw', p.1 ≠ I) (J (i + 1) ys' nw')) E' { s with heap := h, toks := tk, drawn := dr })
    (hIC : C ≠ I) (hID : D ≠ I) (hIL : L ≠ I) (hI0 : h₀.get? I = none)
    (V : CV h₀ L m C D mC ys news s.heap) (hst : St 0 s.heap) (hoff : ∀ p ∈ news, p.1 ≠ I) (hJ : J 0 ys news)
    (hR : ∀ ys' nw' h' tk' dr' mC', CV h₀ L m C D mC' ys' nw' h' → (∀ p ∈ news, p ∈ nw') → J n ys' nw' → R (.ok .next) { s with heap := h', toks := tk', drawn := dr' }) :
    codeAny (model prog w) A (.compLoop e d (.ref I) (.ref D) cenv) R s := by
  refine codeAny_loop hq (fun k s' => Ex7 fun i ys nw h tk dr mC => And8 (s' = { s with heap := h, toks := tk, drawn := dr }) (i ≤ n) (k = n + 1 - i) (CV h₀ L m C D mC ys nw h) (St i h) (∀ p ∈ news, p ∈ nw) (∀ p ∈ nw, p.1 ≠ I) (J i ys nw)) ?_ (n + 1)
    ⟨0, ys, news, s.heap, s.toks, s.drawn, mC, rfl, Nat.zero_le _, rfl, V, hst, fun _ h => h, hoff, hJ⟩
  rintro k s' ⟨i, ys, nw, h, tk, dr, mC, rfl, hi, rfl, V, hst, hsub, hoff, hJ⟩
  rw [hden, hund]
  refine wpAny_noted ?_
  rw [hturn]
  refine wpAny_bind (wpAny_standAt (wpAny_bind ?_))
  by_cases hlt : i < n
  · refine W.item i _ _ _ hlt hst fun v h₂ tk₂ hP hst₂ hk₂ => ?_
    have V₂ := V.but (fun b o hb e => hk₂ b o (by simpa using hb) e) hIC hID hIL hI0 hoff
    obtain ⟨oI, heI⟩ := hIo _ _ hst₂
    have V₃ := V₂.add heI (Ne.symm hIC) (Ne.symm hID) (Ne.symm hIL) hI0
    refine wpAny_mono (hbody i v ys nw oI h₂ tk₂ dr mC _ hlt hP hJ hsub V₃ hst₂ hoff) ?_ fun _ _ e => e
    rintro _ s' ⟨rfl, ys', nw', h', tk', dr', mC', rfl, V', hs', ho', hJ'⟩
    have heI' := (V'.N _ List.mem_cons_self).1
    exact ⟨rfl, n + 1 - (i + 1), by omega, i + 1, ys', nw', h', tk', dr', mC', rfl, hlt, rfl, V'.sub fun p hp => List.mem_cons_of_mem _ hp, hSt _ _ _ _ _ hst₂ heI heI' (fun p hp => hs' p (hsub p hp)) (News_sub V'.N fun p hp => List.mem_cons_of_mem _ hp), fun p hp => hs' p (hsub p hp), ho', hJ'⟩
  · obtain rfl : i = n := Nat.le_antisymm hi (Nat.not_lt.mp hlt)
    refine W.done _ _ _ hst fun h₂ tk₂ hk₂ => ?_
    have V₂ := V.but (fun b o hb e => hk₂ b o (by simpa using hb) e) hIC hID hIL hI0 hoff
    exact wpAny_pure (hR ys nw h₂ tk₂ dr mC V₂ hsub hJ)
end

section
variable {prog : Program} {w : World} {A : Around} {E : Value → Shared → Prop} {h₀ : Heap} {L : Addr} {m : Str → Option Value} {l : Led} {env : Env}

theorem cv_none {C D : Addr} {mC : Str → Option Value} {ys : List Value} {nw : Led} {h : Heap} {tk : Nat} {dr : Drawn} {s₂ : Shared} {Q : Value → Shared → Prop} (V : CV h₀ L m C D mC ys nw h)
    (hQ : ∀ h'', Fr h₀ L h'' m → News h₀ L h'' ((D, lst ys) :: nw) → (∀ p ∈ nw, p.1 ≠ D) → Q (.ref D) { s₂ with heap := h'', toks := tk, drawn := dr }) : compPost (model prog w) A E none Q (.ref D) C (.ok .next) { s₂ with heap := h, toks := tk, drawn := dr } := by
  refine ⟨mC, V.ns, fun h'' hs'' => hQ h'' (V.F.change hs'' V.CL V.C0) (fun p hp => ?_) V.offD⟩
  rcases List.mem_cons.mp hp with rfl | hp
  · exact ⟨hs''.extBut _ _ (Ne.symm V.CD) V.acc, V.DL, V.D0⟩
  · exact ⟨hs''.extBut _ _ (V.offC p hp) (V.N p hp).1, (V.N p hp).2⟩
theorem comp_openU {use : Option (Value → Sem Unit)} {elt tg it : PySem.Expr} {ifs : List PySem.Expr} {gs : List Comprehension} {scope : Scope} {pos : Pos} {cl : List (Str × Addr)} {I : Addr} {s₂ : Shared} {Q : Value → Shared → Prop} (Fin : List Value → Led → Prop)
    (F : Fr h₀ L s₂.heap m) (N : News h₀ L s₂.heap l) (hI : I < s₂.heap.objs.size)
    (hcell : ∀ y ∈ scope.names, y.2 ≠ .cell) (hkind : scope.kind = .function)
    (hself : ∀ (s' : Shared) (Q' : Value → Shared → Prop) (E' : Value → Shared → Prop), (∀ b o, s₂.heap.get? b = some o → s'.heap.get? b = some o) → Q' (.ref I) s' → wpAny (model prog w) A (pyIter (.ref I)) Q' E' s')
    (hloop : ∀ C D h tk, CV h₀ L m C D (fun _ => none) [] l h → C ≠ I → D ≠ I → (∀ b o, s₂.heap.get? b = some o → h.get? b = some o) →
      codeAny (model prog w) A (.compLoop (.ListComp elt (⟨tg, it, ifs, 0⟩ :: gs) scope pos) 0 (.ref I) (.ref D) (compEnvC scope cl C env))
        (fun r s' => Ex6 fun ys nw h' tk' dr' mC' => And4 (r = .ok .next) (s' = { s₂ with heap := h', toks := tk', drawn := dr' }) (CV h₀ L m C D mC' ys nw h') (Fin ys nw)) { s₂ with heap := h, toks := tk })
    (hQ : ∀ C D ys nw h tk dr mC, CV h₀ L m C D mC ys nw h → (∀ p ∈ l, p.1 < D) → Fin ys nw → compPost (model prog w) A E use Q (.ref D) C (.ok .next) { s₂ with heap := h, toks := tk, drawn := dr }) :
    wpAny (model prog w) A (newList []) (fun acc s₃ => wpAny (model prog w) A (newFunctionEnv scope env.globals cl [] env.qual none .none (some env)) (fun cenv s₄ =>
      codeAny (model prog w) A (.compStart (.ListComp elt (⟨tg, it, ifs, 0⟩ :: gs) scope pos) 0 (.ref I) acc { cenv with scope := relabel scope env }) (compPost (model prog w) A E use Q acc cenv.locals) s₄) E s₃) E s₂ := by
  refine wpAny_newObj_type (wpAny_newFunctionEnv hcell (by intro y hy; simp at hy) (fun h₁ hns₁ hsb₁ => ?_) hkind)
  dsimp only at hns₁ hsb₁ ⊢
  generalize hH2 : s₂.heap.push { cls := .type "list", dict := none, data := .seq ([] : List Value).toArray } = H2 at hns₁ hsb₁ ⊢
  have hC : H2.objs.size = s₂.heap.objs.size + 1 := by rw [← hH2, Heap.size_push]
  have hDC : s₂.heap.objs.size ≠ H2.objs.size := by rw [hC]; exact Nat.ne_of_lt (Nat.lt_succ_self _)
  have old : ∀ b o, s₂.heap.get? b = some o → h₁.get? b = some o := fun b o e => hsb₁.extBut b o (by rw [hC]; exact Nat.ne_of_lt (Nat.lt_succ_of_lt (Heap.lt_size e))) (Heap.get?_push_of_some _ (hH2 ▸ Heap.get?_push_of_some _ e))
  have hacc : h₁.get? s₂.heap.objs.size = some (lst []) := hsb₁.extBut _ _ hDC (Heap.get?_push_of_some _ (hH2 ▸ Heap.get?_push_size _ rfl))
  have fresh₀ : ∀ a, s₂.heap.objs.size ≤ a → h₀.get? a = none := fun a ha => by
    cases e : h₀.get? a with
    | none => rfl
    | some o' => exact absurd (Heap.lt_size (F.keep a o' e)) (Nat.not_lt.mpr ha)
  have hLlt : L < s₂.heap.objs.size := F.ns.lt
  have V : CV h₀ L m H2.objs.size s₂.heap.objs.size (fun _ => none) [] l h₁ := ⟨F.keeps old, News.grown N old, hns₁, hacc, fun p hp => Nat.ne_of_lt (by rw [hC]; exact Nat.lt_succ_of_lt (Heap.lt_size (N p hp).1)), fun p hp => Nat.ne_of_lt (Heap.lt_size (N p hp).1), Ne.symm hDC,
    by rw [hC]; exact Nat.ne_of_gt (Nat.lt_succ_of_lt hLlt), Nat.ne_of_gt hLlt, fresh₀ _ (by rw [hC]; exact Nat.le_succ _), fresh₀ _ (Nat.le_refl _)⟩
  have lp := hloop H2.objs.size s₂.heap.objs.size h₁ (s₂.toks + ([] : List (Str × Value)).length) V (by rw [hC]; exact Nat.ne_of_gt (Nat.lt_succ_of_lt hI)) (Nat.ne_of_gt hI) old
  have fin : codeAny (model prog w) A (.compLoop (.ListComp elt (⟨tg, it, ifs, 0⟩ :: gs) scope pos) 0 (.ref I) (.ref s₂.heap.objs.size) (compEnvC scope cl H2.objs.size env)) (compPost (model prog w) A E use Q (.ref s₂.heap.objs.size) H2.objs.size) { s₂ with heap := h₁, toks := s₂.toks + ([] : List (Str × Value)).length } := by
    refine codeAny_mono lp ?_
    rintro r s' ⟨ys, nw, h', tk', dr', mC', rfl, rfl, V', fin⟩
    exact hQ _ _ ys nw h' tk' dr' mC' V' (fun p hp => Heap.lt_size (N p hp).1) fin
  exact codeAny_compStart_list fin (hself _ _ _ old fin)
theorem comp_open {elt tg it : PySem.Expr} {ifs : List PySem.Expr} {gs : List Comprehension} {scope : Scope} {pos : Pos} {cl : List (Str × Addr)} {I : Addr} {s₂ : Shared} {Q : Value → Shared → Prop} (Fin : List Value → Led → Prop)
    (F : Fr h₀ L s₂.heap m) (N : News h₀ L s₂.heap l) (hI : I < s₂.heap.objs.size)
    (hcell : ∀ y ∈ scope.names, y.2 ≠ .cell) (hkind : scope.kind = .function)
    (hself : ∀ (s' : Shared) (Q' : Value → Shared → Prop) (E' : Value → Shared → Prop), (∀ b o, s₂.heap.get? b = some o → s'.heap.get? b = some o) → Q' (.ref I) s' → wpAny (model prog w) A (pyIter (.ref I)) Q' E' s')
    (hloop : ∀ C D h tk, CV h₀ L m C D (fun _ => none) [] l h → C ≠ I → D ≠ I → (∀ b o, s₂.heap.get? b = some o → h.get? b = some o) →
      codeAny (model prog w) A (.compLoop (.ListComp elt (⟨tg, it, ifs, 0⟩ :: gs) scope pos) 0 (.ref I) (.ref D) (compEnvC scope cl C env))
        (fun r s' => Ex6 fun ys nw h' tk' dr' mC' => And4 (r = .ok .next) (s' = { s₂ with heap := h', toks := tk', drawn := dr' }) (CV h₀ L m C D mC' ys nw h') (Fin ys nw)) { s₂ with heap := h, toks := tk })
    (hQ : ∀ D ys nw h tk dr, Fr h₀ L h m → News h₀ L h ((D, lst ys) :: nw) → (∀ p ∈ nw, p.1 ≠ D) → (∀ p ∈ l, p.1 < D) → Fin ys nw → Q (.ref D) { s₂ with heap := h, toks := tk, drawn := dr }) :
    wpAny (model prog w) A (newList []) (fun acc s₃ => wpAny (model prog w) A (newFunctionEnv scope env.globals cl [] env.qual none .none (some env)) (fun cenv s₄ =>
      codeAny (model prog w) A (.compStart (.ListComp elt (⟨tg, it, ifs, 0⟩ :: gs) scope pos) 0 (.ref I) acc { cenv with scope := relabel scope env }) (compPost (model prog w) A E none Q acc cenv.locals) s₄) E s₃) E s₂ :=
  comp_openU Fin F N hI hcell hkind hself hloop fun C D ys nw h tk dr mC V lt fin => cv_none V fun h'' F' N' o' => hQ D ys nw h'' tk dr F' N' o' lt fin

end

section
variable {prog : Program} {w : World} {A : Around} {E : Value → Shared → Prop} {h₀ : Heap} {L : Addr} {m : Str → Option Value} {env : Env} {s : Shared}

noncomputable def CvBody (h₀ : Heap) (L : Addr) (m : Str → Option Value) (C D I : Addr) (oI : Obj) (nw : Led) (J : List Value → Led → Prop) (s s' : Shared) : Prop :=
  Ex6 fun ys' nw' h' tk' dr' mC' => And5 (s' = { s with heap := h', toks := tk', drawn := dr' }) (CV h₀ L m C D mC' ys' ((I, oI) :: nw') h') (∀ p ∈ nw, p ∈ nw') (∀ p ∈ nw', p.1 ≠ I) (J ys' nw')

theorem comp_listU {use : Option (Value → Sem Unit)} {px : Pos} {elt tg it : PySem.Expr} {ifs : List PySem.Expr} {gs : List Comprehension} {scope : Scope} {pos : Pos} {cl : List (Str × Addr)} {Q : Value → Shared → Prop} (body : Addr → Addr → Env → Value → Sem Fin)
    (hh : A.handled = none) (hclos : closureFor scope env = pure cl) (hcell : ∀ y ∈ scope.names, y.2 ≠ .cell) (hkind : scope.kind = .function) (hnames : ∀ y ∈ scope.names, y.2 = .local → scope.names.lookup y.1 = some .local)
    (hturn : ∀ I D cenv, compTurn (.ListComp elt (⟨tg, it, ifs, 0⟩ :: gs) scope pos) 0 (.ref I) (.ref D) cenv = standAt it.pos >>= fun _ => pyNext (.ref I) >>= fun r => match r with
      | none => pure (.done .next)
      | some v => body I D cenv v)
    (hs : ∀ x, foldedSetIterable it env x = pure x)
    (h : wpAny (model prog w) A (eval it env) (fun xv s₁ => Ex5 fun ax its n l (J : Nat → List Value → Led → Prop) => And7 (xv = .ref ax) (Fr h₀ L s₁.heap m) (News h₀ L s₁.heap l) ((ax, W.listOf its n) ∈ l) (J 0 [] l) (∀ i v ys nw oI I C D h tk dr mC (E' : Value → Shared → Prop), its[i]? = some v → J i ys nw → (∀ p ∈ l, p ∈ nw) → CV h₀ L m C D mC ys ((I, oI) :: nw) h → (∀ p ∈ nw, p.1 ≠ I) → h.IsListIter I ax (i + 1) →
        wpAny (model prog w) A (body I D (compEnvC scope cl C env) v) (fun fin s' => fin = .again (.compLoop (.ListComp elt (⟨tg, it, ifs, 0⟩ :: gs) scope pos) 0 (.ref I) (.ref D) (compEnvC scope cl C env)) ∧ CvBody h₀ L m C D I oI nw (J (i + 1)) s₁ s') E' { s₁ with heap := h, toks := tk, drawn := dr }) (∀ C D ys nw h tk dr mC, CV h₀ L m C D mC ys nw h → (∀ p ∈ l, p.1 < D) → (∀ p ∈ l, p ∈ nw) → J its.size ys nw → compPost (model prog w) A E use Q (.ref D) C (.ok .next) { s₁ with heap := h, toks := tk, drawn := dr })) E s) :
    wpAny (model prog w) A (comprehension (.ListComp elt (⟨tg, it, ifs, 0⟩ :: gs) scope pos) scope env px (newList []) false (eval it env) use) Q E s := by
  refine wpAny_comprehension_free (use := use) rfl hs hclos hkind hnames (wpAny_mono h (fun xv s₁ h₁ => ?_) fun _ _ e => e)
  obtain ⟨ax, its, n, l, J, rfl, F, N, hm, hJ, hb, hQ⟩ := h₁
  have hax := N _ hm
  have hl : s₁.heap.IsList ax its := ⟨_, hax.1, rfl, n, rfl⟩
  have hlt : ax < s₁.heap.objs.size := Heap.lt_size hax.1
  refine wpAny_pyIter_list hl ?_
  generalize hH : s₁.heap.push { cls := .type "list_iterator", data := .fields #[.ref ax, .int 0 0] } = H
  have up : ∀ b o, s₁.heap.get? b = some o → H.get? b = some o := fun b o e => hH ▸ Heap.get?_push_of_some _ e
  have hIt : H.IsListIter s₁.heap.objs.size ax 0 := ⟨_, hH ▸ Heap.get?_push_size _ rfl, rfl, rfl⟩
  have hsz : H.objs.size = s₁.heap.objs.size + 1 := by rw [← hH, Heap.size_push]
  have fr0 : h₀.get? s₁.heap.objs.size = none := by
    cases e : h₀.get? s₁.heap.objs.size with
    | none => rfl
    | some o' => exact absurd (Heap.lt_size (F.keep _ o' e)) (Nat.lt_irrefl _)
  refine comp_openU (s₂ := { s₁ with heap := H }) (fun ys nw => (∀ p ∈ l, p ∈ nw) ∧ J its.size ys nw) (F.keeps up) (News.grown N up) (by show _ < H.objs.size; rw [hsz]; exact Nat.lt_succ_self _) hcell hkind (fun s' Q' E' k q => wpAny_pyIter_listiter (hIt.at fun o e => k _ o e) q) (fun C D hC tk V hCI hDI k => ?_) (fun C D ys nw hD tk dr mC V' lt' fin => hQ C D ys nw hD tk dr mC V' lt' fin.1 fin.2)
  have hoffI : ∀ p ∈ l, p.1 ≠ s₁.heap.objs.size := fun p hp => Nat.ne_of_lt (Heap.lt_size (N p hp).1)
  have W := Walks.list (prog := prog) (w := w) hh s₁.heap.objs.size ax (Nat.ne_of_lt hlt) its
  refine cv_loop (news := l) J W (fun i h st => by obtain ⟨o, e, _⟩ := st.1; exact ⟨o, e⟩) (fun i h h' o nw st e e' ks N' => ⟨by obtain ⟨o', q, r⟩ := st.1; rw [e] at q; cases q; exact ⟨o, e', r⟩, ⟨_, (N' _ (ks _ hm)).1, rfl, n, rfl⟩⟩) rfl rfl (hturn _ _ _) rfl (fun i v ys nw oI h tk dr mC E' hlt hP hJ' hsub V' hst' hoff' => hb i v ys nw oI _ C D h tk dr mC E' hP hJ' hsub V' hoff' hst'.1) hCI hDI (Nat.ne_of_lt F.ns.lt) fr0 V ⟨hIt.at fun o e => k _ o e, hl.at fun o e => k _ _ (up _ o e)⟩ hoffI hJ (fun ys' nw' h' tk' dr' mC' V' hs' hJ' => ⟨ys', nw', h', tk', dr', mC', rfl, rfl, V', hs', hJ'⟩)
theorem comp_list {elt tg it : PySem.Expr} {ifs : List PySem.Expr} {gs : List Comprehension} {scope : Scope} {pos : Pos} {cl : List (Str × Addr)} {Q : Value → Shared → Prop} (body : Addr → Addr → Env → Value → Sem Fin)
    (hh : A.handled = none) (hclos : closureFor scope env = pure cl) (hcell : ∀ y ∈ scope.names, y.2 ≠ .cell) (hkind : scope.kind = .function) (hnames : ∀ y ∈ scope.names, y.2 = .local → scope.names.lookup y.1 = some .local)
    (hturn : ∀ I D cenv, compTurn (.ListComp elt (⟨tg, it, ifs, 0⟩ :: gs) scope pos) 0 (.ref I) (.ref D) cenv = standAt it.pos >>= fun _ => pyNext (.ref I) >>= fun r => match r with
      | none => pure (.done .next)
      | some v => body I D cenv v)
    (hs : ∀ x, foldedSetIterable it env x = pure x)
    (h : wpAny (model prog w) A (eval it env) (fun xv s₁ => Ex5 fun ax its n l (J : Nat → List Value → Led → Prop) => And7 (xv = .ref ax) (Fr h₀ L s₁.heap m) (News h₀ L s₁.heap l) ((ax, W.listOf its n) ∈ l) (J 0 [] l) (∀ i v ys nw oI I C D h tk dr mC (E' : Value → Shared → Prop), its[i]? = some v → J i ys nw → (∀ p ∈ l, p ∈ nw) → CV h₀ L m C D mC ys ((I, oI) :: nw) h → (∀ p ∈ nw, p.1 ≠ I) → h.IsListIter I ax (i + 1) →
        wpAny (model prog w) A (body I D (compEnvC scope cl C env) v) (fun fin s' => fin = .again (.compLoop (.ListComp elt (⟨tg, it, ifs, 0⟩ :: gs) scope pos) 0 (.ref I) (.ref D) (compEnvC scope cl C env)) ∧ CvBody h₀ L m C D I oI nw (J (i + 1)) s₁ s') E' { s₁ with heap := h, toks := tk, drawn := dr }) (∀ D ys nw h tk dr, Fr h₀ L h m → News h₀ L h ((D, lst ys) :: nw) → (∀ p ∈ nw, p.1 ≠ D) → (∀ p ∈ l, p.1 < D) → (∀ p ∈ l, p ∈ nw) → J its.size ys nw → Q (.ref D) { s₁ with heap := h, toks := tk, drawn := dr })) E s) :
    wpAny (model prog w) A (eval (.ListComp elt (⟨tg, it, ifs, 0⟩ :: gs) scope pos) env) Q E s := by
  rw [eval_ListComp]
  exact comp_listU body hh hclos hcell hkind hnames hturn hs (wpAny_mono h (fun _ _ hx => by obtain ⟨ax, its, n, l, J, e, F, N, hm, hJ, hb, hQ⟩ := hx; exact ⟨ax, its, n, l, J, e, F, N, hm, hJ, hb, fun C D ys nw h tk dr mC V lt sub j => cv_none V fun h'' F' N' o' => hQ D ys nw h'' tk dr F' N' o' lt sub j⟩) fun _ _ e => e)

noncomputable def CvElt (h₀ : Heap) (L : Addr) (m : Str → Option Value) (C D I : Addr) (oI : Obj) (ys : List Value) (nw : Led) (J : List Value → Led → Prop) (s : Shared) (y : Value) (s' : Shared) : Prop :=
  Ex5 fun nw' h' tk' dr' mC' => And5 (s' = { s with heap := h', toks := tk', drawn := dr' }) (CV h₀ L m C D mC' ys ((I, oI) :: nw') h') (∀ p ∈ nw, p ∈ nw') (∀ p ∈ nw', p.1 ≠ I) (J (ys ++ [y]) nw')
noncomputable def CvSkip (h₀ : Heap) (L : Addr) (m : Str → Option Value) (C D I : Addr) (oI : Obj) (ys : List Value) (nw : Led) (J : List Value → Led → Prop) (s s' : Shared) : Prop :=
  Ex5 fun nw' h' tk' dr' mC' => And5 (s' = { s with heap := h', toks := tk', drawn := dr' }) (CV h₀ L m C D mC' ys ((I, oI) :: nw') h') (∀ p ∈ nw, p ∈ nw') (∀ p ∈ nw', p.1 ≠ I) (J ys nw')

noncomputable def Hold (p : Prop) : Prop := p
theorem comp_plainU {use : Option (Value → Sem Unit)} {px : Pos} (_ : Fr h₀ L s.heap m) {elt tg it : PySem.Expr} {scope : Scope} {pos : Pos} {cl : List (Str × Addr)} {Q : Value → Shared → Prop}
    (hh : A.handled = none) (hclos : closureFor scope env = pure cl) (hcell : ∀ y ∈ scope.names, y.2 ≠ .cell) (hkind : scope.kind = .function) (hnames : ∀ y ∈ scope.names, y.2 = .local → scope.names.lookup y.1 = some .local)
    (hs : ∀ x, foldedSetIterable it env x = pure x)
    (h : wpAny (model prog w) A (eval it env) (fun xv s₁ => Hold (Ex5 fun ax its n l (J : Nat → List Value → Led → Prop) => And9 (xv = .ref ax) (Fr h₀ L s₁.heap m) (News h₀ L s₁.heap l) ((ax, W.listOf its n) ∈ l) (its.size ≤ 1000) (J 0 [] l) (∀ i ys nw, J i ys nw → ys.length ≤ i) (∀ i v ys nw oI I C D h tk dr mC (E' : Value → Shared → Prop), its[i]? = some v → J i ys nw → (∀ p ∈ l, p ∈ nw) → CV h₀ L m C D mC ys ((I, oI) :: nw) h → (∀ p ∈ nw, p.1 ≠ I) → h.IsListIter I ax (i + 1) →
        wpAny (model prog w) A (letOwnedTupleGo tg (.ref I) v) (fun _ s₂ => wpAny (model prog w) A (assign tg (compEnvC scope cl C env) v) (fun _ s₃ => wpAny (model prog w) A (eval elt (compEnvC scope cl C env)) (CvElt h₀ L m C D I oI ys nw (J (i + 1)) s₁) E' s₃) E' s₂) E' { s₁ with heap := h, toks := tk, drawn := dr }) (∀ C D ys nw h tk dr mC, CV h₀ L m C D mC ys nw h → (∀ p ∈ l, p.1 < D) → (∀ p ∈ l, p ∈ nw) → J its.size ys nw → compPost (model prog w) A E use Q (.ref D) C (.ok .next) { s₁ with heap := h, toks := tk, drawn := dr }))) E s) :
    wpAny (model prog w) A (comprehension (.ListComp elt [⟨tg, it, [], 0⟩] scope pos) scope env px (newList []) false (eval it env) use) Q E s := by
  refine comp_listU (h₀ := h₀) (L := L) (m := m) (fun I D cenv v => letOwnedTupleGo tg (.ref I) v >>= fun _ => assign tg cenv v >>= fun _ =>
        (eval elt cenv >>= fun x => call (.builtin "list.append") [.ref D, x] >>= fun _ => pure ()) >>= fun _ => again (.compLoop (.ListComp elt [⟨tg, it, [], 0⟩] scope pos) 0 (.ref I) (.ref D) cenv)) hh hclos hcell hkind hnames (fun I D cenv => rfl) hs (wpAny_mono h (fun xv s₁ h₁ => ?_) fun _ _ e => e)
  obtain ⟨ax, its, n, l, J, e, F, N, hm, hsz, hJ, hlen, hb, hQ⟩ := h₁
  refine ⟨ax, its, n, l, J, e, F, N, hm, hJ, fun i v ys nw oI I C D h tk dr mC E' hi hJ' hsub V off hit => ?_, hQ⟩
  have hlt : i < its.size := (Array.getElem?_eq_some_iff.mp hi).1
  refine wpAny_bind (wpAny_mono (hb i v ys nw oI I C D h tk dr mC E' hi hJ' hsub V off hit) (fun _ s₂ h₂ => wpAny_bind (wpAny_mono h₂ (fun _ s₃ h₃ => wpAny_bind (wpAny_bind (wpAny_mono h₃ (fun y s₄ h₄ => ?_) fun _ _ e => e))) fun _ _ e => e)) fun _ _ e => e)
  obtain ⟨nw', h', tk', dr', mC', rfl, V', hs', ho', hJ₂⟩ := h₄
  refine wpAny_bind (cv_append (s := { s₁ with heap := h', toks := tk', drawn := dr' }) V' (by have := hlen _ _ _ hJ'; rw [sizeLine_eq]; omega) fun h'' V'' => wpAny_pure (wpAny_pure ⟨rfl, ys ++ [y], nw', h'', tk', dr', mC', rfl, V'', hs', ho', hJ₂⟩))
theorem comp_plain (F₀ : Fr h₀ L s.heap m) {elt tg it : PySem.Expr} {scope : Scope} {pos : Pos} {cl : List (Str × Addr)} {Q : Value → Shared → Prop}
    (hh : A.handled = none) (hclos : closureFor scope env = pure cl) (hcell : ∀ y ∈ scope.names, y.2 ≠ .cell) (hkind : scope.kind = .function) (hnames : ∀ y ∈ scope.names, y.2 = .local → scope.names.lookup y.1 = some .local)
    (hs : ∀ x, foldedSetIterable it env x = pure x)
    (h : wpAny (model prog w) A (eval it env) (fun xv s₁ => Hold (Ex5 fun ax its n l (J : Nat → List Value → Led → Prop) => And9 (xv = .ref ax) (Fr h₀ L s₁.heap m) (News h₀ L s₁.heap l) ((ax, W.listOf its n) ∈ l) (its.size ≤ 1000) (J 0 [] l) (∀ i ys nw, J i ys nw → ys.length ≤ i) (∀ i v ys nw oI I C D h tk dr mC (E' : Value → Shared → Prop), its[i]? = some v → J i ys nw → (∀ p ∈ l, p ∈ nw) → CV h₀ L m C D mC ys ((I, oI) :: nw) h → (∀ p ∈ nw, p.1 ≠ I) → h.IsListIter I ax (i + 1) →
        wpAny (model prog w) A (letOwnedTupleGo tg (.ref I) v) (fun _ s₂ => wpAny (model prog w) A (assign tg (compEnvC scope cl C env) v) (fun _ s₃ => wpAny (model prog w) A (eval elt (compEnvC scope cl C env)) (CvElt h₀ L m C D I oI ys nw (J (i + 1)) s₁) E' s₃) E' s₂) E' { s₁ with heap := h, toks := tk, drawn := dr }) (∀ D ys nw h tk dr, Fr h₀ L h m → News h₀ L h ((D, lst ys) :: nw) → (∀ p ∈ nw, p.1 ≠ D) → (∀ p ∈ l, p.1 < D) → (∀ p ∈ l, p ∈ nw) → J its.size ys nw → Q (.ref D) { s₁ with heap := h, toks := tk, drawn := dr }))) E s) :
    wpAny (model prog w) A (eval (.ListComp elt [⟨tg, it, [], 0⟩] scope pos) env) Q E s := by
  rw [eval_ListComp]
  exact comp_plainU F₀ hh hclos hcell hkind hnames hs (wpAny_mono h (fun _ _ hx => by obtain ⟨ax, its, n, l, J, e, F, N, hm, hz, hJ, hl, hb, hQ⟩ := hx; exact ⟨ax, its, n, l, J, e, F, N, hm, hz, hJ, hl, hb, fun C D ys nw h tk dr mC V lt sub j => cv_none V fun h'' F' N' o' => hQ D ys nw h'' tk dr F' N' o' lt sub j⟩) fun _ _ e => e)

theorem comp_test (_ : Fr h₀ L s.heap m) {elt tg it c : PySem.Expr} {scope : Scope} {pos : Pos} {cl : List (Str × Addr)} {Q : Value → Shared → Prop}
    (hh : A.handled = none) (hclos : closureFor scope env = pure cl) (hcell : ∀ y ∈ scope.names, y.2 ≠ .cell) (hkind : scope.kind = .function) (hnames : ∀ y ∈ scope.names, y.2 = .local → scope.names.lookup y.1 = some .local)
    (hs : ∀ x, foldedSetIterable it env x = pure x)
    (h : wpAny (model prog w) A (eval it env) (fun xv s₁ => Hold (Ex5 fun ax its n l (J : Nat → List Value → Led → Prop) => And9 (xv = .ref ax) (Fr h₀ L s₁.heap m) (News h₀ L s₁.heap l) ((ax, W.listOf its n) ∈ l) (its.size ≤ 1000) (J 0 [] l) (∀ i ys nw, J i ys nw → ys.length ≤ i) (∀ i v ys nw oI I C D h tk dr mC (E' : Value → Shared → Prop), its[i]? = some v → J i ys nw → (∀ p ∈ l, p ∈ nw) → CV h₀ L m C D mC ys ((I, oI) :: nw) h → (∀ p ∈ nw, p.1 ≠ I) → h.IsListIter I ax (i + 1) →
        wpAny (model prog w) A (letOwnedTupleGo tg (.ref I) v) (fun _ s₂ => wpAny (model prog w) A (assign tg (compEnvC scope cl C env) v) (fun _ s₃ => wpAny (model prog w) A (isTrue c (compEnvC scope cl C env) (eval c (compEnvC scope cl C env))) (fun ok s₄ =>
          if ok = true then wpAny (model prog w) A (eval elt (compEnvC scope cl C env)) (CvElt h₀ L m C D I oI ys nw (J (i + 1)) s₁) E' s₄ else CvSkip h₀ L m C D I oI ys nw (J (i + 1)) s₁ s₄) E' s₃) E' s₂) E' { s₁ with heap := h, toks := tk, drawn := dr }) (∀ D ys nw h tk dr, Fr h₀ L h m → News h₀ L h ((D, lst ys) :: nw) → (∀ p ∈ nw, p.1 ≠ D) → (∀ p ∈ l, p.1 < D) → (∀ p ∈ l, p ∈ nw) → J its.size ys nw → Q (.ref D) { s₁ with heap := h, toks := tk, drawn := dr }))) E s) :
    wpAny (model prog w) A (eval (.ListComp elt [⟨tg, it, [c], 0⟩] scope pos) env) Q E s := by
  refine comp_list (h₀ := h₀) (L := L) (m := m) (fun I D cenv v => letOwnedTupleGo tg (.ref I) v >>= fun _ => assign tg cenv v >>= fun _ =>
        (forIn [c] true fun c r => if r = true then do let ok ← isTrue c cenv (eval c cenv); pure (ForInStep.yield ok) else pure (ForInStep.yield r)) >>= fun ok =>
        if ok = true then (eval elt cenv >>= fun x => call (.builtin "list.append") [.ref D, x] >>= fun _ => pure ()) >>= fun _ => again (.compLoop (.ListComp elt [⟨tg, it, [c], 0⟩] scope pos) 0 (.ref I) (.ref D) cenv)
        else again (.compLoop (.ListComp elt [⟨tg, it, [c], 0⟩] scope pos) 0 (.ref I) (.ref D) cenv)) hh hclos hcell hkind hnames (fun I D cenv => compTurn_list _ _ _ _ _ _ _ _ _) hs (wpAny_mono h (fun xv s₁ h₁ => ?_) fun _ _ e => e)
  obtain ⟨ax, its, n, l, J, e, F, N, hm, hsz, hJ, hlen, hb, hQ⟩ := h₁
  refine ⟨ax, its, n, l, J, e, F, N, hm, hJ, fun i v ys nw oI I C D h tk dr mC E' hi hJ' hsub V off hit => ?_, hQ⟩
  have hlt : i < its.size := (Array.getElem?_eq_some_iff.mp hi).1
  refine wpAny_bind (wpAny_mono (hb i v ys nw oI I C D h tk dr mC E' hi hJ' hsub V off hit) (fun _ s₂ h₂ => wpAny_bind (wpAny_mono h₂ (fun _ s₃ h₃ => wpAny_bind (wpAny_tests_one (wpAny_mono h₃ (fun ok s₄ h₄ => ?_) fun _ _ e => e))) fun _ _ e => e)) fun _ _ e => e)
  cases ok with
  | true =>
    refine wpAny_bind (wpAny_bind (wpAny_mono h₄ (fun y s₅ h₅ => ?_) fun _ _ e => e))
    obtain ⟨nw', h', tk', dr', mC', rfl, V', hs', ho', hJ₂⟩ := h₅
    refine wpAny_bind (cv_append (s := { s₁ with heap := h', toks := tk', drawn := dr' }) V' (by have := hlen _ _ _ hJ'; rw [sizeLine_eq]; omega) fun h'' V'' => wpAny_pure (wpAny_pure ⟨rfl, ys ++ [y], nw', h'', tk', dr', mC', rfl, V'', hs', ho', hJ₂⟩))
  | false =>
    obtain ⟨nw', h', tk', dr', mC', rfl, V', hs', ho', hJ₂⟩ := h₄
    exact wpAny_pure ⟨rfl, ys, nw', h', tk', dr', mC', rfl, V', hs', ho', hJ₂⟩
end

section
variable {prog : Program} {w : World} {A : Around} {E : Value → Shared → Prop} {h₀ : Heap} {L C D I : Addr} {m mC : Str → Option Value} {ys : List Value} {news : Led} {s : Shared} {oI : Obj}

theorem cv_pair {cenv : Env} {a b : Str} {pa pb tp : Pos} {k : Nat} {t ax : Addr} {j : Nat} {v1 v2 : Value} {Q : Unit → Shared → Prop} (hh : A.handled = none) (V : CV h₀ L m C D mC ys ((I, oI) :: news) s.heap) (hC : cenv.locals = C) (hk : cenv.scope.kind = .function) (ha : cenv.kindOf a = some .local) (hb : cenv.kindOf b = some .local)
    (hit : s.heap.IsListIter I ax j) (ht : (t, tupO [v1, v2]) ∈ news)
    (h : ∀ h' tk, CV h₀ L m C D (fun y => if y = b then some v2 else if y = a then some v1 else mC y) ys ((I, oI) :: news) h' → Q () { s with heap := h', toks := tk }) :
    wpAny (model prog w) A (letOwnedTupleGo (.Tuple [.Name a pa, .Name b pb] k tp) (.ref I) (.ref t)) (fun _ s₁ => wpAny (model prog w) A (assign (.Tuple [.Name a pa, .Name b pb] k tp) cenv (.ref t)) Q E s₁) E s := by
  refine wpAny_letOwnedTupleGo_listiter hit ?_
  have htt := V.N _ (List.mem_cons_of_mem _ ht)
  refine assign_Tuple_tuple hh (⟨_, htt.1, rfl, 0, rfl⟩ : IsTup s.heap t #[v1, v2]) rfl rfl fun h₁ hx => ?_
  have V₁ := V.grow (h' := h₁) fun b o e => hx b o (Nat.ne_of_lt (Heap.lt_size e)) e
  refine assignInOrder_cons (cv_store (s := { s with heap := h₁ }) V₁ hC hk ha fun h₂ V₂ => ?_)
  refine assignInOrder_cons (cv_store (s := { s with heap := h₂, toks := s.toks + 1 }) V₂ hC hk hb fun h₃ V₃ => ?_)
  exact assignInOrder_nil (h h₃ _ V₃)

theorem cv_one {cenv : Env} {a : Str} {pa : Pos} {it v : Value} {Q : Unit → Shared → Prop} (V : CV h₀ L m C D mC ys ((I, oI) :: news) s.heap) (hC : cenv.locals = C) (hk : cenv.scope.kind = .function) (ha : cenv.kindOf a = some .local)
    (h : ∀ h' tk, CV h₀ L m C D (fun y => if y = a then some v else mC y) ys ((I, oI) :: news) h' → Q () { s with heap := h', toks := tk }) :
    wpAny (model prog w) A (letOwnedTupleGo (.Name a pa) it v) (fun _ s₁ => wpAny (model prog w) A (assign (.Name a pa) cenv v) Q E s₁) E s := by
  unfold letOwnedTupleGo
  refine wpAny_pure ?_
  exact cv_store (s := s) V hC hk ha fun h' V' => h h' _ V'

theorem CV.led {h : Heap} (V : CV h₀ L m C D mC ys news h) : ∃ oC, NsObj oC mC ∧ News h₀ L h ((C, oC) :: (D, lst ys) :: news) := by
  obtain ⟨oC, e, hn⟩ := ns_obj V.ns
  refine ⟨oC, hn, fun p hp => ?_⟩
  rcases List.mem_cons.mp hp with rfl | hp
  · exact ⟨e, V.CL, V.C0⟩
  · rcases List.mem_cons.mp hp with rfl | hp
    · exact ⟨V.acc, V.DL, V.D0⟩
    · exact V.N p hp
theorem CV.back {h h' : Heap} (V : CV h₀ L m C D mC ys news h) {oC : Obj} {l' nw : Led} (hn : NsObj oC mC) (F' : Fr h₀ L h' m) (N' : News h₀ L h' l') (mC' : (C, oC) ∈ l') (mD : (D, lst ys) ∈ l') (sub : ∀ p ∈ nw, p ∈ l') (oC' : ∀ p ∈ nw, p.1 ≠ C) (oD : ∀ p ∈ nw, p.1 ≠ D) : CV h₀ L m C D mC ys nw h' :=
  ⟨F', News_sub N' sub, hn.ns (N' _ mC').1, (N' _ mD).1, oC', oD, V.CD, V.CL, V.DL, V.C0, V.D0⟩
end

theorem loop_ind {M : Model} {A : Around} {c : Code} {R : Result → Shared → Prop} (P : Nat → Shared → Prop) (step : ∀ n s, P n s → (∀ m s', m < n → P m s' → codeAny M A c R s') → codeAny M A c R s) : ∀ n s, P n s → codeAny M A c R s := by
  intro n
  induction n using Nat.strongRecOn with
  | ind n ih => exact fun s h => step n s h fun m s' hm h' => ih m hm s' h'


end
theorem ln_MD_10 : True := by
  k_with "eval Name" => (k_here; (with_reducible show wpAny _ _ (eval (Expr.Name _ _) (compEnvC _ _ _ _)) _ _ _); k_dflt (first | (refine' LCgL.ld_own ?Nq9 ?mq9 ?nq9 ?xq9 ?_ ?hkq9 ?hlq9; (case hlq9 => rfl); (case hkq9 => rfl); (case Nq9 => k_asm); (case mq9 => k_mem); (case nq9 => assumption); (case xq9 => first | rfl | assumption); k_whole) | (refine' lcf_free ?Nq9 ?cq9 ?mq9 ?dq9 ?_ ?aq9 ?bq9; (case bq9 => rfl); (case aq9 => rfl); (case Nq9 => k_asm); (case cq9 => rfl); (case mq9 => k_mem); (case dq9 => k_asm); k_whole) | (refine' LCgL.ld_global ?Fq9 ?Xq9 ?Tq9 ?eq9 ?_ ?gq9 ?hkq9 ?hxq9; (case hxq9 => rfl); (case hkq9 => rfl); (case gq9 => rfl); (case Fq9 => k_asm); (case Xq9 => k_asm); (case Tq9 => k_asm); (case eq9 => k_is); k_whole) | (refine' LCgL.ld_built ?Fq9 ?Xq9 ?Tq9 ?eq9 ?vq9 ?nq9 ?_ ?gq9 ?hbq9 ?hkq9 ?hxq9; (case hxq9 => rfl); (case hkq9 => rfl); (case gq9 => rfl); (case hbq9 => rfl); (case Fq9 => k_asm); (case Xq9 => k_asm); (case Tq9 => k_asm); (case eq9 => k_is); (case vq9 => boot_by_name); (case nq9 => decide); k_whole)))
  exact True.intro

section
set_option maxHeartbeats 2000000
open PySem.F
section
variable {prog : Program} {w : World} {A : Around} {E : Value → Shared → Prop} {s : Shared}

theorem IsTupIter.at' {h h' : Heap} {a t : Addr} {i : Nat} (x : IsTupIter h a t i) (k : ∀ o, h.get? a = some o → h'.get? a = some o) : IsTupIter h' a t i := let ⟨o, e, r⟩ := x; ⟨o, k o e, r⟩
theorem IsTupIter.typ {a t : Addr} {i : Nat} (x : IsTupIter s.heap a t i) : s.TypeIs (.ref a) "tuple_iterator" := let ⟨o, ho, hc, _⟩ := x; ⟨o, ho, hc⟩

theorem nextOf_tuple_item {it t : Addr} {i : Nat} {items : Array Value} {x : Value} {Q : Value → Shared → Prop} (hit : IsTupIter s.heap it t i)
    (ht : IsTup s.heap t items) (hx : items[i]? = some x)
    (hQ : ∀ h', IsTupIter h' it t (i + 1) → Heap.SameBut it s.heap h' → Q x { s with heap := h' }) :
    wpAny (model prog w) A (Builtin.SmallTypes.nextOf (.ref it)) Q E s := by
  obtain ⟨o, ho, hc, hd⟩ := id hit
  obtain ⟨ol, hol, _, nl, hdl⟩ := ht
  unfold Builtin.SmallTypes.nextOf
  refine wpAny_bind (wpAny_callSpecial?_slot (name := Str.ofString "__next__") (IsTupIter.typ hit) slot_tupleiter_next
    (wpAny_call_entry slot_tupleiter_next (IsTupIter.typ hit) entry_tupleiter_next ?_ (args_tupleiter_next _)))
  show wpAny _ _ (field (.ref it) 0 >>= _) _ _ s
  refine wpAny_bind (wpAny_field ho hd (x := .ref t) rfl ?_)
  show wpAny _ _ (if (Value.ref t == Value.none) = true then _ else _) _ _ s
  rw [if_neg (show ¬ ((Value.ref t == Value.none) = true) from Bool.false_ne_true)]
  show wpAny _ _ (field (.ref it) 1 >>= _) _ _ s
  refine wpAny_bind (wpAny_field ho hd (x := .int i 0) rfl ?_)
  show wpAny _ _ (seqItems? (.ref t) >>= _) _ _ s
  refine wpAny_bind (wpAny_seqItems hol hdl ?_)
  simp only [Int.toNat_natCast, hx]
  refine wpAny_bind (wpAny_setField ho hd (by simp) (wpAny_pure ⟨x, rfl, wpAny_pure (hQ _ ?_ (Heap.SameBut.update ..))⟩))
  exact ⟨_, Heap.get?_update_self _ ho (Obj.isFreed_of_fields (Obj.data_mapFields hd _)), (Obj.cls_mapFields ..).trans hc, by
    rw [Obj.data_mapFields hd]; simp [rawInt]⟩

theorem nextOf_tuple_end {it t : Addr} {i : Nat} {items : Array Value} {Q : Value → Shared → Prop} (hh : A.handled = none)
    (hit : IsTupIter s.heap it t i) (ht : IsTup s.heap t items) (hx : items[i]? = none)
    (hE : ∀ h' e, Heap.ExtBut it s.heap h' → (∃ o, h'.get? it = some o) → (∃ o, h'.get? e = some o ∧ o.cls = .type "StopIteration") → E (.ref e) { s with heap := h' }) :
    wpAny (model prog w) A (Builtin.SmallTypes.nextOf (.ref it)) Q E s := by
  obtain ⟨o, ho, hc, hd⟩ := id hit
  obtain ⟨ol, hol, _, nl, hdl⟩ := ht
  unfold Builtin.SmallTypes.nextOf
  refine wpAny_bind (wpAny_callSpecial?_slot (name := Str.ofString "__next__") (IsTupIter.typ hit) slot_tupleiter_next
    (wpAny_call_entry slot_tupleiter_next (IsTupIter.typ hit) entry_tupleiter_next ?_ (args_tupleiter_next _)))
  show wpAny _ _ (field (.ref it) 0 >>= _) _ _ s
  refine wpAny_bind (wpAny_field ho hd (x := .ref t) rfl ?_)
  show wpAny _ _ (if (Value.ref t == Value.none) = true then _ else _) _ _ s
  rw [if_neg (show ¬ ((Value.ref t == Value.none) = true) from Bool.false_ne_true)]
  show wpAny _ _ (field (.ref it) 1 >>= _) _ _ s
  refine wpAny_bind (wpAny_field ho hd (x := .int i 0) rfl ?_)
  show wpAny _ _ (seqItems? (.ref t) >>= _) _ _ s
  refine wpAny_bind (wpAny_seqItems hol hdl ?_)
  simp only [Int.toNat_natCast, hx]
  refine wpAny_bind (wpAny_rule (wpAny_bind (wpAny_setField ho hd (by simp) ?_)))
  show wpAny _ _ (newExc (.type "StopIteration") [] >>= _) _ _ _
  refine wpAny_bind ?_
  simp only [newExc, newTuple]
  refine wpAny_bind (wpAny_newObj_type ?_ (by size_fits))
  refine wpAny_bind (m := firstArgMember _ _) (wpAny_of_eq (a := Value.none) (by first | rfl | (simp only [firstArgMember]; rfl)) ?_)
  refine wpAny_newObj_type ?_ (by size_fits)
  simp only [raiseNew]
  refine wpAny_bind (wpAny_handled ?_)
  first | rw [show A.in1.handled = none from hh] | rw [hh]
  refine wpAny_bind (wpAny_pure (wpAny_throw ?_))
  exact hE _ _ (((Heap.SameBut.update ..).extBut.push _).push _) ⟨_, Heap.get?_push_of_some _ (Heap.get?_push_of_some _ (Heap.get?_update_self _ ho (Obj.isFreed_of_fields (Obj.data_mapFields hd _))))⟩ ⟨_, Heap.get?_push_size _ rfl, rfl⟩

theorem enumTup_item {e it t : Addr} {i : Nat} {items : Array Value} {x old : Value} {Q : Option Value → Shared → Prop}
    (he : IsEnum s.heap e it i old) (hit : IsTupIter s.heap it t i) (ht : IsTup s.heap t items) (hx : items[i]? = some x) (hne : e ≠ it)
    (hQ : ∀ h', IsEnumOut h' e it ((i : Int) + 1) x s.heap.objs.size → IsTupIter h' it t (i + 1) →
      h'.get? s.heap.objs.size = some { cls := .type "tuple", data := .seq #[.int i s.toks, x] } → h'.objs.size = s.heap.objs.size + 1 →
      (∀ b o, b ≠ e → b ≠ it → s.heap.get? b = some o → h'.get? b = some o) → Q (some (.ref s.heap.objs.size)) { s with heap := h', toks := s.toks + 1 }) :
    wpAny (model prog w) A (pyNext (.ref e)) Q E s := by
  have hT : s.TypeIs (.ref e) "enumerate" := ⟨_, he, rfl⟩
  unfold pyNext
  refine wpAny_bind (wpAny_attempt (wpAny_callSpecial?_slot (name := Str.ofString "__next__") hT F.slot_enumerate_next
    (wpAny_call_entry F.slot_enumerate_next hT F.entry_enumerate_next ?_ (F.args_enumerate_next_1 _))))
  obtain ⟨hp, g, d, tk, os⟩ := s
  show wpAny _ _ (field (.ref e) 2 >>= _) _ _ _
  refine wpAny_bind (wpAny_field he rfl (x := .ref it) rfl ?_)
  refine wpAny_bind (nextOf_tuple_item hit ht hx fun h₁ hit₁ hs₁ => ?_)
  replace hs₁ : Heap.SameBut it hp h₁ := hs₁
  have he₁ : IsEnum h₁ e it i old := (hs₁.2 e hne).trans he
  show wpAny _ _ (field (.ref e) 3 >>= _) _ _ ⟨h₁, g, d, tk, os⟩
  refine wpAny_bind (wpAny_field he₁ rfl (x := rawInt i) rfl ?_)
  show wpAny _ _ (field (.ref e) 4 >>= _) _ _ ⟨h₁, g, d, tk, os⟩
  refine wpAny_bind (wpAny_field he₁ rfl (x := .none) rfl ?_)
  show wpAny _ _ (mkInt i >>= _) _ _ ⟨h₁, g, d, tk, os⟩
  refine wpAny_bind (wpAny_mkInt ?_)
  show wpAny _ _ (setField (.ref e) 3 (rawInt ((i : Int) + 1)) >>= _) _ _ ⟨h₁, g, d, tk + 1, os⟩
  refine wpAny_bind (wpAny_setField_rec he₁ (by simp) fun h₂ he₂ hs₂ => ?_)
  replace hs₂ : Heap.SameBut e h₁ h₂ := hs₂
  replace he₂ : IsEnum h₂ e it ((i : Int) + 1) old := he₂
  show wpAny _ _ (setField (.ref e) 4 .none >>= _) _ _ ⟨h₂, g, d, tk + 1, os⟩
  refine wpAny_bind (wpAny_setField_rec he₂ (by simp) fun h₃ he₃ hs₃ => ?_)
  replace hs₃ : Heap.SameBut e h₂ h₃ := hs₃
  replace he₃ : IsEnum h₃ e it ((i : Int) + 1) old := he₃
  show wpAny _ _ (newTuple [.int i tk, x] >>= _) _ _ ⟨h₃, g, d, tk + 1, os⟩
  refine wpAny_bind (wpAny_newTuple ?_)
  have he₄ : IsEnum (h₃.push { cls := .type "tuple", data := .seq #[.int i tk, x] }) e it ((i : Int) + 1) old := Heap.get?_push_of_some _ he₃
  generalize hh₄ : h₃.push { cls := .type "tuple", data := .seq #[.int i tk, x] } = h₄ at he₄
  have hsz : h₃.objs.size = hp.objs.size := by rw [hs₃.1, hs₂.1, hs₁.1]
  have hel : e < hp.objs.size := Heap.lt_size he
  have ht₄ : h₄.get? hp.objs.size = some { cls := .type "tuple", data := .seq #[.int i tk, x] } := by rw [← hh₄, ← hsz]; exact Heap.get?_push_size _ rfl
  have hz₄ : h₄.objs.size = hp.objs.size + 1 := by rw [← hh₄, Heap.size_push, hsz]
  have hk₄ : ∀ b o, b ≠ e → b ≠ it → hp.get? b = some o → h₄.get? b = some o := fun b o hbe hbi hb => by
    rw [← hh₄]; exact Heap.get?_push_of_some _ (hs₃.extBut b o hbe (hs₂.extBut b o hbe (hs₁.extBut b o hbi hb)))
  have hit₄ : IsTupIter h₄ it t (i + 1) := by
    rw [← hh₄]; exact IsTupIter.at' hit₁ fun o ho => Heap.get?_push_of_some _ (hs₃.extBut _ o (Ne.symm hne) (hs₂.extBut _ o (Ne.symm hne) ho))
  show wpAny _ _ (Builtin.SmallTypes.ownedTupleIsFree (.ref e) >>= _) _ _ ⟨h₄, g, d, tk + 1, os⟩
  rw [hsz]
  clear hh₄ he₃ hs₃ he₂ hs₂ he₁ hs₁ hit₁ hsz h₃ h₂ h₁
  refine wpAny_bind ?_
  · unfold Builtin.SmallTypes.ownedTupleIsFree
    refine wpAny_bind (wpAny_field he₄ rfl (x := .none) rfl (wpAny_pure ?_))
    simp only [if_true]
    refine wpAny_bind (wpAny_rule ?_)
    refine wpAny_bind (wpAny_field he₄ rfl (x := old) rfl ?_)
    refine wpAny_bind (wpAny_setField_rec he₄ (by simp) fun h₅ he₅ hs₅ => ?_)
    replace hs₅ : Heap.SameBut e h₄ h₅ := hs₅
    replace he₅ : IsEnum h₅ e it ((i : Int) + 1) x := he₅
    show wpAny _ _ (Builtin.SmallTypes.ownedTupleHandOut (.ref e) (.ref hp.objs.size) >>= _) _ _ ⟨h₅, g, d, tk + 1, os⟩
    refine wpAny_bind ?_
    · unfold Builtin.SmallTypes.ownedTupleHandOut
      refine wpAny_bind (wpAny_setField_rec he₅ (by simp) fun h₆ he₆ hs₆ => ?_)
      replace hs₆ : Heap.SameBut e h₅ h₆ := hs₆
      replace he₆ : IsEnumOut h₆ e it ((i : Int) + 1) x hp.objs.size := he₆
      refine wpAny_setField_rec he₆ (by simp) fun h₇ he₇ hs₇ => ?_
      replace hs₇ : Heap.SameBut e h₆ h₇ := hs₇
      replace he₇ : IsEnumOut h₇ e it ((i : Int) + 1) x hp.objs.size := he₇
      refine wpAny_bind (wpAny_letGo (wpAny_pure ⟨_, rfl, wpAny_pure (hQ h₇ he₇ ?_ ?_ ?_ ?_)⟩))
      · exact IsTupIter.at' hit₄ fun o ho => hs₇.extBut _ o (Ne.symm hne) (hs₆.extBut _ o (Ne.symm hne) (hs₅.extBut _ o (Ne.symm hne) ho))
      · exact hs₇.extBut _ _ (Nat.ne_of_gt hel) (hs₆.extBut _ _ (Nat.ne_of_gt hel) (hs₅.extBut _ _ (Nat.ne_of_gt hel) ht₄))
      · rw [hs₇.1, hs₆.1, hs₅.1, hz₄]
      · exact fun b o hbe hbi hb => hs₇.extBut b o hbe (hs₆.extBut b o hbe (hs₅.extBut b o hbe (hk₄ b o hbe hbi hb)))

theorem enumTup_end {e it t : Addr} {i : Nat} {items : Array Value} {old : Value} {Q : Option Value → Shared → Prop} (hh : A.handled = none)
    (he : IsEnum s.heap e it i old) (hit : IsTupIter s.heap it t i) (ht : IsTup s.heap t items) (hx : items[i]? = none)
    (hQ : ∀ h' o', Heap.ExtBut it s.heap h' → h'.get? it = some o' → Q none { s with heap := h' }) : wpAny (model prog w) A (pyNext (.ref e)) Q E s := by
  have hT : s.TypeIs (.ref e) "enumerate" := ⟨_, he, rfl⟩
  unfold pyNext
  refine wpAny_bind (wpAny_attempt (wpAny_callSpecial?_slot (name := Str.ofString "__next__") hT F.slot_enumerate_next
    (wpAny_call_entry F.slot_enumerate_next hT F.entry_enumerate_next ?_ (F.args_enumerate_next_1 _))))
  show wpAny _ _ (field (.ref e) 2 >>= _) _ _ _
  refine wpAny_bind (wpAny_field he rfl (x := .ref it) rfl ?_)
  refine wpAny_bind (nextOf_tuple_end hh hit ht hx fun h' x he' hi' hx' => ?_)
  obtain ⟨o, ho, hc⟩ := hx'
  obtain ⟨o', ho'⟩ := hi'
  refine wpAny_bind (wpAny_isInstance (T := "StopIteration") (b := true) ⟨o, ho, hc⟩ isSubtype_stop ?_)
  exact wpAny_pure (hQ _ _ he' ho')

open AutoSeq1 (wpAny_loadPart') in
theorem meets_enumTup_new (l : Addr) (items : Array Value) (n : Nat) (dct : Option Addr) (sl : Array (Option Value)) :
    Meets (Builtin.«enumerate.__new__» ⟨[.type "enumerate", .ref l], []⟩) (fun _ R s => s.heap.get? l = some { cls := .type "tuple", dict := dct, data := .seq items n, slots := sl } ∧
      R (.ok (.ret (.ref (s.heap.push { cls := .type "tuple_iterator", data := .fields #[.ref l, .int 0 0] }).objs.size)))
        { s with heap := (s.heap.push { cls := .type "tuple_iterator", data := .fields #[.ref l, .int 0 0] }).push { cls := .type "enumerate", data := .fields #[.none, .bool false, .ref s.heap.objs.size, rawInt 0, .none, .none] } }) :=
  .of_wp fun prog w A R s h => by
    obtain ⟨hp, g, d, tk, os⟩ := s; obtain ⟨hl, h⟩ := h
    have hsub := sub_enumerate
    have hL : IsTup (Shared.heap ⟨hp, g, d, tk, os⟩) l items := ⟨_, hl, rfl, n, rfl⟩
    wp_walk using wpAny_loadPart' hl
    refine wpAny_stack_any fun st => wpAny_pure ?_
    split
    · rename_i c _ _ _ _ _
      cases (c == Value.type "enumerate")
      · wp_walk using wpAny_loadPart' hl, iter_tuple hL
        exact ⟨_, rfl, h⟩
      · wp_walk using wpAny_loadPart' hl, iter_tuple hL
        exact ⟨_, rfl, h⟩
    · wp_walk using wpAny_loadPart' hl, iter_tuple hL
      exact ⟨_, rfl, h⟩

theorem call_enumTup {l : Addr} {items : Array Value} {Q : Value → Shared → Prop} (hL : IsTup s.heap l items)
    (h : ∀ h', IsEnum h' (s.heap.objs.size + 1) s.heap.objs.size 0 .none → IsTupIter h' s.heap.objs.size l 0 → h'.objs.size = s.heap.objs.size + 2 →
      (∀ b o, s.heap.get? b = some o → h'.get? b = some o) → Q (.ref (s.heap.objs.size + 1)) { s with heap := h' }) :
    wpAny (model prog w) A (call (.type "enumerate") [.ref l]) Q E s := by
  obtain ⟨⟨c, dct, dt, sl⟩, hl, hc, n, hd⟩ := hL
  replace hc : c = .type "tuple" := hc
  replace hd : dt = .seq items n := hd
  subst hc hd
  refine callType_new F.called_enumerate (by decide) (F.typeCall_enumerate_1 _) (F.newCall_enumerate_1 _) (fun obj => F.args_object_init_2 obj _) F.entry_enumerate_new
    (meets_enumTup_new l items n dct sl) ⟨hl, ?_⟩
  have hz : (s.heap.push { cls := .type "tuple_iterator", data := .fields #[.ref l, .int 0 0] }).objs.size = s.heap.objs.size + 1 := Heap.size_push ..
  show _ ∧ _
  rw [hz]
  have he : IsEnum ((s.heap.push { cls := .type "tuple_iterator", data := .fields #[.ref l, .int 0 0] }).push
      { cls := .type "enumerate", data := .fields #[.none, .bool false, .ref s.heap.objs.size, rawInt 0, .none, .none] }) (s.heap.objs.size + 1) s.heap.objs.size 0 .none := by
    have := Heap.get?_push_size (s.heap.push { cls := .type "tuple_iterator", data := .fields #[.ref l, .int 0 0] })
      (o := { cls := .type "enumerate", data := .fields #[.none, .bool false, .ref s.heap.objs.size, rawInt 0, .none, .none] }) rfl
    rw [hz] at this; exact this
  refine ⟨⟨_, he, rfl⟩, h _ he ⟨_, Heap.get?_push_of_some _ (Heap.get?_push_size _ rfl), rfl, rfl⟩ (by rw [Heap.size_push, hz]) fun b o x => Heap.get?_push_of_some _ (Heap.get?_push_of_some _ x)⟩
end

theorem UpdF_mem {a : Addr} {o : Obj} {l : Led} {g : Obj → Led} (U : UpdF a o l g) {o' : Obj} : ∀ p ∈ g o', p = (a, o') ∨ (p ∈ l ∧ p.1 ≠ a) := by
  obtain ⟨pre, post, e1, e2, h1, h2⟩ := U.split
  intro p hp
  rw [e2 o'] at hp
  rw [e1]
  rcases List.mem_append.mp hp with hp | hp
  · exact .inr ⟨List.mem_append_left _ hp, h1 p hp⟩
  · rcases List.mem_cons.mp hp with hp | hp
    · exact .inl hp
    · exact .inr ⟨List.mem_append_right _ ((List.mem_cons_of_mem _ hp)), h2 p hp⟩
theorem UpdF_old {a : Addr} {o : Obj} {l : Led} {g : Obj → Led} (U : UpdF a o l g) : (a, o) ∈ l := by
  obtain ⟨pre, post, e1, _, _, _⟩ := U.split
  rw [e1]; exact List.mem_append_right _ ((.head _))
theorem News_upd {h₀ h h' : Heap} {L a : Addr} {o o' : Obj} {l : Led} {g : Obj → Led} (N : News h₀ L h l) (U : UpdF a o l g) (k : ∀ b ob, b ≠ a → h.get? b = some ob → h'.get? b = some ob) (e : h'.get? a = some o') : News h₀ L h' (g o') := by
  intro p hp
  rcases UpdF_mem U p hp with rfl | ⟨hp, hne⟩
  · exact ⟨e, (N _ (UpdF_old U)).2⟩
  · exact ⟨k _ _ hne (N p hp).1, (N p hp).2⟩
theorem News_upd2 {h₀ h h' : Heap} {L a b : Addr} {o o' ob ob' : Obj} {l : Led} {g : Obj → Led} {g2 : Obj → Obj → Led} (N : News h₀ L h l) (U : UpdF a o l g) (U2 : ∀ x, UpdF b ob (g x) (g2 x)) (hab : a ≠ b)
    (k : ∀ c oc, c ≠ a → c ≠ b → h.get? c = some oc → h'.get? c = some oc) (e : h'.get? a = some o') (e2 : h'.get? b = some ob') : News h₀ L h' (g2 o' ob') := by
  have hb : (b, ob) ∈ l := by
    rcases UpdF_mem U _ (UpdF_old (U2 o')) with q | ⟨q, _⟩
    · exact absurd (congrArg Prod.fst q).symm hab
    · exact q
  intro p hp
  rcases UpdF_mem (U2 o') p hp with rfl | ⟨hp, hne⟩
  · exact ⟨e2, (N _ hb).2⟩
  · rcases UpdF_mem U p hp with rfl | ⟨hp, hne'⟩
    · exact ⟨e, (N _ (UpdF_old U)).2⟩
    · exact ⟨k _ _ hne' hne (N p hp).1, (N p hp).2⟩

noncomputable abbrev enumO (it : Addr) (i : Int) (old : Value) : Obj := { cls := .type "enumerate", dict := none, data := .fields #[.none, .bool false, .ref it, rawInt i, .none, old], slots := #[] }
structure TIt (o : Obj) (t : Addr) (i : Nat) : Prop where
  cls : o.cls = .type "tuple_iterator"
  data : o.data = .fields #[.ref t, .int i 0]

section
variable {prog : Program} {w : World} {A : Around} {E : Value → Shared → Prop} {s : Shared} {h₀ : Heap} {L : Addr} {m : Str → Option Value} {l : Led} {env : Env}

theorem for_step {R : Result → Shared → Prop} {target : PySem.Expr} {it : Value} {body orelse : List Stmt}
    (turn : wpAny (model prog w) A (pyNext it) (fun r s₁ => match r with
      | none => wpAny (model prog w) A (execs orelse env) (fun f s₃ => R (.ok f) s₃) (notedBy (model prog w) A env fun e s' => R (.error e) s') s₁
      | some v => wpAny (model prog w) A (letOwnedTupleGo target it v) (fun _ s₁' =>
          wpAny (model prog w) A (assign target env v) (fun _ s₂ => wpAny (model prog w) A (execs body env) (fun f s₃ => match f with
            | .next | .cont => codeAny (model prog w) A (.forLoop target it body orelse env) R s₃
            | .brk => R (.ok .next) s₃
            | .ret v => R (.ok (.ret v)) s₃) (notedBy (model prog w) A env fun e s' => R (.error e) s') s₂) (notedBy (model prog w) A env fun e s' => R (.error e) s') s₁') (notedBy (model prog w) A env fun e s' => R (.error e) s') s₁) (notedBy (model prog w) A env fun e s' => R (.error e) s') s) :
    codeAny (model prog w) A (.forLoop target it body orelse env) R s := by
  refine codeAny_of_tree ?_
  show wpAny _ A ((forTurn target it body orelse env).onRaise (fun x => do noteFrame x env; theTreesLotGoes x)) _ _ s
  refine wpAny_noted ?_
  simp only [forTurn]
  refine wpAny_bind (wpAny_standAt (wpAny_bind (wpAny_onRaise (wpAny_mono turn (fun r s₁ h₁ => ?_) fun _ _ h' => wpAny_standAt h'))))
  cases r with
  | none => exact wpAny_pure ⟨rfl, codeAny_block h₁⟩
  | some v =>
    refine wpAny_bind (wpAny_mono h₁ (fun _ s₁' h₁' => ?_) fun _ _ h' => h')
    refine wpAny_bind (wpAny_mono h₁' (fun _ s₂ h₂ => wpAny_bind (wpAny_mono h₂ (fun f s₃ h₃ => ?_) fun _ _ h' => h')) fun _ _ h' => h')
    cases f with
    | next => exact wpAny_pure ⟨rfl, h₃⟩
    | cont => exact wpAny_pure ⟨rfl, h₃⟩
    | brk => exact wpAny_pure h₃
    | ret v => exact wpAny_pure h₃

theorem enum_turn {R : Result → Shared → Prop} {xk xv : Str} {pk pv pt : Pos} {x1 : Nat} {body : List Stmt} {e it t : Addr} {i : Nat} {old : Value} {oit : Obj} {vs : List Value} {v : Value} {g : Obj → Led} {g2 : Obj → Obj → Led}
    (hh : A.handled = none) (F : Fr h₀ L s.heap m) (N : News h₀ L s.heap l) (U1 : UpdF e (enumO it i old) l g) (U2 : ∀ o, UpdF it oit (g o) (g2 o)) (hI : TIt oit t i) (ht : (t, tupO vs) ∈ l) (hx : vs[i]? = some v) (hne : @Ne Nat e it)
    (h : ∀ h' tk' oit', Fr h₀ L h' m → News h₀ L h' (g2 (enumO it ((i : Int) + 1) v) oit') → TIt oit' t (i + 1) →
      wpAny (model prog w) A (storeName env xk (.int i s.toks)) (fun _ s₁ => wpAny (model prog w) A (storeName env xv v) (fun _ s₂ => wpAny (model prog w) A (execs body env) (fun f s₃ => match f with
            | .next | .cont => codeAny (model prog w) A (.forLoop (.Tuple [.Name xk pk, .Name xv pv] x1 pt) (.ref e) body [] env) R s₃
            | .brk => R (.ok .next) s₃
            | .ret v => R (.ok (.ret v)) s₃) (notedBy (model prog w) A env fun e s' => R (.error e) s') s₂) (notedBy (model prog w) A env fun e s' => R (.error e) s') s₁) (notedBy (model prog w) A env fun e s' => R (.error e) s') { s with heap := h', toks := tk' }) :
    codeAny (model prog w) A (.forLoop (.Tuple [.Name xk pk, .Name xv pv] x1 pt) (.ref e) body [] env) R s := by
  have he := (N _ (UpdF_old U1))
  have hite : (it, oit) ∈ l := by
    rcases UpdF_mem U1 _ (UpdF_old (U2 (enumO it i old))) with q | ⟨q, _⟩
    · exact absurd (congrArg Prod.fst q).symm hne
    · exact q
  have hi := N _ hite
  have htt := N _ ht
  have hite' : IsTupIter s.heap it t i := ⟨oit, hi.1, hI.cls, hI.data⟩
  have htup : IsTup s.heap t vs.toArray := ⟨_, htt.1, rfl, 0, rfl⟩
  refine for_step (enumTup_item he.1 hite' htup (x := v) (by simpa using hx) hne fun h₁ heo hit₁ ht₁ hz₁ hk₁ => ?_)
  refine wpAny_letOwnedTupleGo_enum heo fun h₂ he₂ hs₂ => ?_
  replace hs₂ : Heap.SameBut e h₁ h₂ := hs₂
  have heH : e < s.heap.objs.size := Heap.lt_size he.1
  have hiH : it < s.heap.objs.size := Heap.lt_size hi.1
  have ht₂ : IsTup h₂ s.heap.objs.size #[.int i s.toks, v] := ⟨_, (hs₂.2 _ (Nat.ne_of_gt heH)).trans ht₁, rfl, _, rfl⟩
  have hz₂ : h₂.objs.size = s.heap.objs.size + 1 := hs₂.1.trans hz₁
  refine assign_Tuple_tuple hh ht₂ rfl rfl fun h₃ hx₃ => ?_
  replace hx₃ : Heap.ExtBut h₂.objs.size h₂ h₃ := hx₃
  have old₃ : ∀ b o, b < s.heap.objs.size → h₂.get? b = some o → h₃.get? b = some o := fun b o hb x => hx₃ b o (by rw [hz₂]; exact Nat.ne_of_lt (Nat.lt_succ_of_lt hb)) x
  have k₃ : ∀ b o, b ≠ e → b ≠ it → s.heap.get? b = some o → h₃.get? b = some o := fun b o hbe hbi x => old₃ b o (Heap.lt_size x) (hs₂.extBut b o hbe (hk₁ b o hbe hbi x))
  have he₃ : h₃.get? e = some (enumO it ((i : Int) + 1) v) := old₃ _ _ heH he₂
  obtain ⟨oit', hoit', hc', hd'⟩ := hit₁
  have hi₃ : h₃.get? it = some oit' := old₃ _ _ hiH (hs₂.extBut _ _ (Ne.symm hne) hoit')
  have F₃ : Fr h₀ L h₃ m := ⟨F.ns.at' fun o q => k₃ _ o (Ne.symm he.2.1) (Ne.symm hi.2.1) q, fun b o q => k₃ b o (fun z => by subst z; exact nomatch he.2.2.symm.trans q) (fun z => by subst z; exact nomatch hi.2.2.symm.trans q) (F.keep b o q), F.above⟩
  have N₃ := News_upd2 N U1 U2 hne k₃ he₃ hi₃
  exact assignInOrder_cons (wpAny_assign_Name (wpAny_mono (h h₃ _ oit' F₃ N₃ ⟨hc', hd'⟩) (fun _ s₁ h₁ => assignInOrder_cons (wpAny_assign_Name (wpAny_mono h₁ (fun _ s₂ h₂ => assignInOrder_nil h₂) fun _ _ y => y))) fun _ _ y => y))

theorem enum_stop {R : Result → Shared → Prop} {xk xv : Str} {pk pv pt : Pos} {x1 : Nat} {body : List Stmt} {e it t : Addr} {i : Nat} {old : Value} {oit : Obj} {vs : List Value} {g : Obj → Led}
    (hh : A.handled = none) (F : Fr h₀ L s.heap m) (N : News h₀ L s.heap l) (he : (e, enumO it i old) ∈ l) (U : UpdF it oit l g) (hI : TIt oit t i) (ht : (t, tupO vs) ∈ l) (hx : vs[i]? = none)
    (h : ∀ h' o', Fr h₀ L h' m → News h₀ L h' (g o') → R (.ok .next) { s with heap := h' }) :
    codeAny (model prog w) A (.forLoop (.Tuple [.Name xk pk, .Name xv pv] x1 pt) (.ref e) body [] env) R s := by
  have hi := N _ (UpdF_old U)
  have htt := N _ ht
  refine for_step (enumTup_end hh (N _ he).1 ⟨oit, hi.1, hI.cls, hI.data⟩ (⟨_, htt.1, rfl, 0, rfl⟩ : IsTup s.heap t vs.toArray) (by simpa using hx) fun h₁ o' hk ho => wpAny_execs_nil ?_)
  exact h h₁ o' ⟨F.ns.at' fun o q => hk _ o (Ne.symm hi.2.1) q, fun b o q => hk b o (fun z => by subst z; exact nomatch hi.2.2.symm.trans q) (F.keep b o q), F.above⟩ (News_upd N U (fun b ob hb q => hk b ob hb q) ho)

theorem enum_call {t : Addr} {vs : List Value} {Q : Value → Shared → Prop} (F : Fr h₀ L s.heap m) (N : News h₀ L s.heap l) (ht : (t, tupO vs) ∈ l)
    (h : ∀ e it h' oit, Fr h₀ L h' m → News h₀ L h' ((e, enumO it 0 .none) :: (it, oit) :: l) → TIt oit t 0 → (∀ p ∈ l, p.1 < it) → (∀ p ∈ l, p.1 < e) → it < e → Q (.ref e) { s with heap := h' }) :
    wpAny (model prog w) A (call (.type "enumerate") [.ref t]) Q E s := by
  have htt := N _ ht
  refine call_enumTup (⟨_, htt.1, rfl, 0, rfl⟩ : IsTup s.heap t vs.toArray) fun h' he hit hsz hk => ?_
  obtain ⟨oit, ho, hc, hd⟩ := hit
  have hL : L < s.heap.objs.size := F.ns.lt
  have fr : ∀ a, s.heap.objs.size ≤ a → h₀.get? a = none := fun a ha => by
    cases q : h₀.get? a with
    | none => rfl
    | some o => exact absurd (Heap.lt_size (F.keep _ _ q)) (Nat.not_lt.mpr ha)
  refine h _ _ h' oit (F.keeps hk) (fun p hp => ?_) ⟨hc, hd⟩ (fun p hp => Heap.lt_size (N p hp).1) (fun p hp => Nat.lt_succ_of_lt (Heap.lt_size (N p hp).1)) (Nat.lt_succ_self _)
  rcases List.mem_cons.mp hp with rfl | hp
  · exact ⟨he, Nat.ne_of_gt (Nat.lt_succ_of_lt hL), fr _ (Nat.le_succ _)⟩
  · rcases List.mem_cons.mp hp with rfl | hp
    · exact ⟨ho, Nat.ne_of_gt hL, fr _ (Nat.le_refl _)⟩
    · exact ⟨hk _ _ (N p hp).1, (N p hp).2⟩
theorem enum_iter {e it : Addr} {i : Int} {old : Value} {Q : Value → Shared → Prop} (N : News h₀ L s.heap l) (he : (e, enumO it i old) ∈ l) (h : Q (.ref e) s) : wpAny (model prog w) A (pyIter (.ref e)) Q E s :=
  wpAny_pyIter_enum (N _ he).1 h

theorem tup_tail {value slice : PySem.Expr} {t : Addr} {v : Value} {vs : List Value} {u : Tok} {Q : Value → Shared → Prop} {h₁ : Heap} {gs : Array GenState} {dr : Drawn} {tk : Nat} {os : OsState} (F : Fr h₀ L h₁ m) (N : News h₀ L h₁ l) (ht : (t, tupO (v :: vs)) ∈ l) (hsz : vs.length < 1000)
    (h : ∀ D h', Fr h₀ L h' m → News h₀ L h' ((D, tupO vs) :: l) → (∀ p ∈ l, p.1 < D) → Q (.ref D) ⟨h', gs, dr, tk, os⟩)
    (hs : subscripted slice false (.ref t) (.ref h₁.objs.size) = operate [.ref h₁.objs.size, .ref t] (getItem (.ref t) (.ref h₁.objs.size)))
    (hg : ∀ r, letTemporaryGo value (.ref t) r = pure ()) :
    wpAny (model prog w) A (subscriptTail value slice (.ref t) (.ref h₁.objs.size)) Q E ⟨h₁.push { cls := .type "slice", data := .fields #[.int ((1 : Nat) : Int) u, .none, .none] }, gs, dr, tk, os⟩ := by
  refine slice_tuple_from (s := ⟨h₁, gs, dr, tk, os⟩) (items := (v :: vs).toArray) F N ⟨_, (N _ ht).1, rfl, 0, rfl⟩ (by decide) (by simp) (fun h' F' N' => h _ h' F' N' fun p hp => Nat.lt_succ_of_lt (Heap.lt_size (N p hp).1)) hs hg ?_
  simp only [List.size_toArray, List.length_cons]; rw [sizeLine_eq]; omega
end

section
variable {prog : Program} {w : World} {A : Around} {E : Value → Shared → Prop} {s : Shared} {h₀ : Heap} {L : Addr} {l : Led}
theorem tup_item0 {value slice : PySem.Expr} {t : Addr} {v : Value} {vs : List Value} {u : Tok} {Q : Value → Shared → Prop} (N : News h₀ L s.heap l) (ht : (t, tupO (v :: vs)) ∈ l) (h : Q v s)
    (hs : subscripted slice false (.ref t) (.int 0 u) = operate [.ref t, .int 0 u] (getItem (.ref t) (.int 0 u))) :
    wpAny (model prog w) A (subscriptTail value slice (.ref t) (.int 0 u)) Q E s :=
  item_tupleT (j := 0) (News.isTup N ht) (by decide) (by decide) (by simp [seqIndex?]) rfl h hs
end

inductive Pull (x : Addr × Obj) : Led → Led → Prop
  | here {r} : Pull x (x :: r) r
  | there {p r r'} : Pull x r r' → Pull x (p :: r) (p :: r')
theorem Pull.mem {x : Addr × Obj} {l r : Led} (h : Pull x l r) : x ∈ l ∧ ∀ p ∈ r, p ∈ l := by
  induction h with
  | here => exact ⟨.head _, fun p hp => .tail _ hp⟩
  | there _ ih => exact ⟨.tail _ ih.1, fun q hq => (List.mem_cons.mp hq).elim (fun e => e ▸ .head _) fun hq => .tail _ (ih.2 q hq)⟩
open PyProof.Rows.LCg in
theorem compEnd_pull {h₀ : Heap} {L I C D : Addr} {m : Str → Option Value} {s₁ : Shared} {oI oC oD : Obj} {S : Led → Prop} {rest : Value → Led → Prop} {y : Value} {h' : Heap} {tk : Nat} {l r1 r2 r3 : Led}
    (F : Fr h₀ L h' m) (N : News h₀ L h' l) (p1 : Pull (I, oI) l r1) (p2 : Pull (C, oC) r1 r2) (p3 : Pull (D, oD) r2 r3) (off : Off3 I C D r3) (hS : S r3) (r : rest y r3) :
    CompEnd h₀ L m s₁ I oI C oC D oD S rest y { s₁ with heap := h', toks := tk } :=
  CompEnd.intro F N r3 (fun p hp => by
    rcases List.mem_cons.mp hp with rfl | hp
    · exact p1.mem.1
    · rcases List.mem_cons.mp hp with rfl | hp
      · exact p1.mem.2 _ p2.mem.1
      · rcases List.mem_cons.mp hp with rfl | hp
        · exact p1.mem.2 _ (p2.mem.2 _ p3.mem.1)
        · exact p1.mem.2 _ (p2.mem.2 _ (p3.mem.2 _ hp))) off hS r


end
theorem ln_MT_11 : True := by
  k_with "pull" => first | exact Pull.here | exact Pull.there (by k_extra "pull")
  exact True.intro
local macro_rules | `(tactic| lcg_off) => `(tactic| k_extra "ku9")
theorem ln_MT_12 : True := by
  k_with "CompEnd" => ((((with_reducible rename (_ ∧ _) ∧ _ => off9q9); (have off8q9 := off9q9); (repeat (replace off9q9 := off9q9.2)); k_dflt (refine' compEnd_pull ?kFq9 ?kNq9 ?k1q9 ?k2q9 ?k3q9 ?kOq9 ?kSq9 ?_; (case kFq9 => k_asm); (case kNq9 => k_asm); (case k1q9 => k_extra "pull"); (case k2q9 => k_extra "pull"); (case k3q9 => k_extra "pull"); (case kOq9 => lcg_off); (case kSq9 => lcg_src)))) <;> walk_at "hide9b")
  k_with "subscriptTail Name Slice ref ref" => (((k_here; (with_reducible show wpAny _ _ (subscriptTail _ (PySem.Expr.Slice _ _ none _) (Value.ref _) (Value.ref _)) _ _ _); k_dflt (refine' tup_tail ?Fq9 ?Nq9 ?lq9 ?zq9 ?_ ?sq9 ?tq9; (case Fq9 => k_asm); (case Nq9 => k_asm); (case lq9 => k_mem); (case zq9 => first | exact Nat.le_of_ble_eq_true rfl | assumption); (case sq9 => with_unfolding_all rfl); (case tq9 => (intro _; with_unfolding_all rfl))); intro _ _ _ _ l1q9; (try k_lt l1q9); (try k_sweep))) <;> walk_at "hide9a")
  k_with "subscriptTail Name Constant ref int" => (k_here; (with_reducible show wpAny _ _ (subscriptTail _ (PySem.Expr.Constant (Const.int 0) _ _) (Value.ref _) (Value.int _ _)) _ _ _); k_dflt (refine' tup_item0 ?Nq9 ?lq9 ?_ ?sq9; (case Nq9 => k_asm); (case lq9 => k_mem); (case sq9 => with_unfolding_all rfl)))
  k_with "exec For Tuple Call cons nil" => (k_here; (with_reducible show wpAny _ _ (exec (Stmt.For (Expr.Tuple _ _ _) (Expr.Call (Expr.Name (Str.ofString "enumerate") _) _ _ _) _ _ _) _) _ _ _); refine wpAny_For ?_ (by intro _; with_unfolding_all rfl))
  k_with "call type:enumerate" => (((k_here; (with_reducible show wpAny _ _ (call (Value.type _) [Value.ref _]) _ _ _); k_dflt (refine' enum_call ?k1q9 ?k2q9 ?k3q9 ?_; (case k1q9 => k_asm); (case k2q9 => k_asm); (case k3q9 => k_mem)); (intro _ _ _ _ _ _ _ l1q9 l1bq9 l2q9); (try k_lt l1q9); (try k_lt l1bq9); (try k_lt2 l2q9))) <;> walk_at "hide9b")
  k_with "pyIter ref" => (k_here; k_dflt (refine' enum_iter ?k1q9 ?k2q9 ?_; (case k1q9 => k_asm); (case k2q9 => k_mem)))
  k_with "codeAny forLoop" => (((k_here; k_dflt (first | (refine' enum_turn ?hhq9 ?Fq9 ?Nq9 ?U1q9 ?U2q9 ?hIq9 ?htq9 ?hxq9 ?neq9 ?_; (case hIq9 => k_asm); (case hhq9 => exact rfl); (case Fq9 => k_asm); (case Nq9 => k_asm); (case U1q9 => k_updF); (case U2q9 => (intro _; k_updF)); (case htq9 => k_mem); (case hxq9 => exact rfl); (case neq9 => (refine neN ?_; omega)); (intro _ _ _ _ N'q9 _); (try dsimp only at N'q9)) | (refine' enum_stop ?hhq9 ?Fq9 ?Nq9 ?heq9 ?Uq9 ?hIq9 ?htq9 ?hxq9 ?_; (case hIq9 => k_asm); (case hhq9 => exact rfl); (case Fq9 => k_asm); (case Nq9 => k_asm); (case heq9 => k_mem); (case Uq9 => k_updF); (case htq9 => k_mem); (case hxq9 => exact rfl); (intro _ _ _ N'q9); (try dsimp only at N'q9); (try dsimp only))))) <;> walk_at "hide9a")
  exact True.intro

section
set_option maxHeartbeats 4000000

noncomputable def Tm.subs : Tm → List Tm
  | .l x => [.l x] | .f x => [.f x, .l x] | .gll x y => [.gll x y, .l x, .l y] | .gfl x y => [.gfl x y, .f x, .l x, .l y] | .gff x y => [.gff x y, .f x, .l x, .f y, .l y]
noncomputable def Tm.op : Tm → Str
  | .l x => x | .f _ => Str.ofString "f" | .gll .. => Str.ofString "g" | .gfl .. => Str.ofString "g" | .gff .. => Str.ofString "g"
noncomputable def Tm.kids : Tm → List Tm
  | .l _ => [] | .f x => [.l x] | .gll x y => [.l x, .l y] | .gfl x y => [.f x, .l y] | .gff x y => [.f x, .f y]
noncomputable def Tm.sz : Tm → Nat
  | .l _ => 0 | .f _ => 1 | _ => 2

theorem Tm.sz_le (T : Tm) : T.sz ≤ 2 := by cases T <;> exact Nat.le_of_ble_eq_true rfl
noncomputable def PartOk (c : Nat) (news : Led) (v : Value) (T : Tm) : Prop :=
  Ex4 fun p q b vs => And5 (v = .ref p) ((p, tupO [.ref q, .ref b]) ∈ news) ((q, tupO vs) ∈ news) (vs.length ≤ c) (Rel news (.ref b) T)
theorem PartOk.mono {c : Nat} {n n' : Led} {v : Value} {T : Tm} (h : PartOk c n v T) (k : ∀ p ∈ n, p ∈ n') : PartOk c n' v T :=
  let ⟨p, q, b, vs, e, h1, h2, h3, h4⟩ := h; ⟨p, q, b, vs, e, k _ h1, k _ h2, h3, h4.mono k⟩
noncomputable def PartsOk (c : Nat) (news : Led) (vs : List Value) (Ts : List Tm) : Prop := Paired (PartOk c news) vs Ts
theorem Rel.monoT {n n' : Led} {v : Value} {T : Tm} (h : Rel n v T) (k : ∀ a vs, (a, tupO vs) ∈ n → (a, tupO vs) ∈ n') : Rel n' v T := by
  cases h with
  | l h1 => exact .l (k _ _ h1)
  | f h1 h2 => exact .f (k _ _ h1) (k _ _ h2)
  | gll h1 h2 h3 => exact .gll (k _ _ h1) (k _ _ h2) (k _ _ h3)
  | gfl h1 h2 h3 h4 => exact .gfl (k _ _ h1) (k _ _ h2) (k _ _ h3) (k _ _ h4)
  | gff h1 h2 h3 h4 h5 => exact .gff (k _ _ h1) (k _ _ h2) (k _ _ h3) (k _ _ h4) (k _ _ h5)
theorem Paired.imp {α β : Type} {F G : α → β → Prop} (k : ∀ a b, F a b → G a b) : ∀ {l₁ : List α} {l₂ : List β}, Paired F l₁ l₂ → Paired G l₁ l₂ := by
  intro _ _ h
  induction h with
  | nil => exact .nil
  | cons h _ ih => exact .cons (k _ _ h) ih
theorem PartOk.monoT {c : Nat} {n n' : Led} {v : Value} {T : Tm} (h : PartOk c n v T) (k : ∀ a vs, (a, tupO vs) ∈ n → (a, tupO vs) ∈ n') : PartOk c n' v T :=
  let ⟨p, q, b, vs, e, h1, h2, h3, h4⟩ := h; ⟨p, q, b, vs, e, k _ _ h1, k _ _ h2, h3, h4.monoT k⟩
theorem PartsOk.monoT {c : Nat} {n n' : Led} {vs : List Value} {Ts : List Tm} (h : PartsOk c n vs Ts) (k : ∀ a vs, (a, tupO vs) ∈ n → (a, tupO vs) ∈ n') : PartsOk c n' vs Ts := Paired.imp (fun _ _ x => x.monoT k) h
theorem PartsOk.mono {c : Nat} {n n' : Led} {vs : List Value} {Ts : List Tm} (h : PartsOk c n vs Ts) (k : ∀ p ∈ n, p ∈ n') : PartsOk c n' vs Ts := Paired.imp (fun _ _ x => x.mono k) h
theorem Paired.append {α β : Type} {F : α → β → Prop} : ∀ {l₁ k₁ : List α} {l₂ k₂ : List β}, Paired F l₁ l₂ → Paired F k₁ k₂ → Paired F (l₁ ++ k₁) (l₂ ++ k₂) := by
  intro _ _ _ _ h k
  induction h with
  | nil => exact k
  | cons h _ ih => exact .cons h ih
theorem Paired.get {α β : Type} {F : α → β → Prop} : ∀ {l₁ : List α} {l₂ : List β}, Paired F l₁ l₂ → ∀ {i : Nat} {a : α}, l₁[i]? = some a → ∃ b, l₂[i]? = some b ∧ F a b := by
  intro _ _ h
  induction h with
  | nil => intro i a h; exact nomatch h
  | cons h _ ih =>
    intro i a e
    cases i with
    | zero => exact ⟨_, rfl, Option.some.inj e ▸ h⟩
    | succ j => exact ih (i := j) e

theorem Paired.none {α β : Type} {F : α → β → Prop} {l : List α} (h : Paired F l []) : l = [] := by cases h; rfl
theorem Paired.one {α β : Type} {F : α → β → Prop} {l : List α} {b : β} (h : Paired F l [b]) : Ex1 fun a => And2 (l = [a]) (F a b) := by
  cases h with | cons h t => exact ⟨_, by rw [Paired.none t], h⟩
theorem Paired.two {α β : Type} {F : α → β → Prop} {l : List α} {b c : β} (h : Paired F l [b, c]) : Ex2 fun a d => And3 (l = [a, d]) (F a b) (F d c) := by
  cases h with | cons h t => obtain ⟨d, e, k⟩ := Paired.one t; exact ⟨_, d, by rw [e], h, k⟩
theorem Paired.length {α β : Type} {F : α → β → Prop} : ∀ {l₁ : List α} {l₂ : List β}, Paired F l₁ l₂ → l₁.length = l₂.length := by
  intro _ _ h
  induction h with
  | nil => rfl
  | cons _ _ ih => exact congrArg Nat.succ ih
noncomputable def PartsPost (news : Led) (T : Tm) (news' : Led) (r : Value) : Prop :=
  Ex4 fun tl l its n => And6 (news' = (l, W.listOf its n) :: (tl ++ news)) (r = .ref l) (PartsOk T.sz (tl ++ news) its.toList T.subs) (∀ p ∈ tl, ∀ q ∈ news, q.1 < p.1) (∀ q ∈ news, q.1 < l) (∀ p ∈ tl, p.1 ≠ l)

theorem _root_.PySem.W.AllLt.mem {d : Addr} : ∀ {l : Led}, AllLt d l → ∀ p ∈ l, @LT.lt Nat _ p.1 d
  | [], _, _, h => nomatch h
  | _ :: _, h, _, hp => (List.mem_cons.mp hp).elim (fun e => e ▸ h.1) (h.2.mem _)


end
theorem ln_ME_13 : True := by
  k_with "eval Name" => (k_here; k_dflt (refine' nameX_L ?Fq9 ?vq9 ?_ ?aq9 ?bq9; (case Fq9 => k_asm); (case aq9 => rfl); (case bq9 => rfl); (case vq9 => assumption); k_whole))
  exact True.intro
section
set_option maxHeartbeats 4000000

theorem Rel.open {news : Led} {v : Value} {T : Tm} (R : Rel news v T) : Ex3 fun a t kvs => And4 (v = .ref a) ((a, tupO (.str T.op t :: kvs)) ∈ news) (Paired (fun v T' => Rel news v T' ∧ T'.sz < T.sz) kvs T.kids) (kvs.length ≤ 2) := by
  cases R with
  | l h => exact ⟨_, _, [], rfl, h, .nil, by simp [Tm.sz]⟩
  | f h1 h2 => exact ⟨_, _, [_], rfl, h1, .cons ⟨.l h2, by simp [Tm.sz]⟩ .nil, by simp [Tm.sz]⟩
  | gll h1 h2 h3 => exact ⟨_, _, [_, _], rfl, h1, .cons ⟨.l h2, by simp [Tm.sz]⟩ (.cons ⟨.l h3, by simp [Tm.sz]⟩ .nil), by simp [Tm.sz]⟩
  | gfl h1 h2 h3 h4 => exact ⟨_, _, [_, _], rfl, h1, .cons ⟨.f h2 h3, by simp [Tm.sz]⟩ (.cons ⟨.l h4, by simp [Tm.sz]⟩ .nil), by simp [Tm.sz]⟩
  | gff h1 h2 h3 h4 h5 => exact ⟨_, _, [_, _], rfl, h1, .cons ⟨.f h2 h3, by simp [Tm.sz]⟩ (.cons ⟨.f h4 h5, by simp [Tm.sz]⟩ .nil), by simp [Tm.sz]⟩

theorem UpdF.toUpd {d : Addr} {o o' : Obj} : ∀ {l : Led} {g : Obj → Led}, UpdF d o l g → Upd d o o' l (g o') := by
  intro _ _ h
  induction h with
  | head h => exact .head h
  | tail h _ ih => exact .tail h ih
theorem extend_L {prog : Program} {w : World} {A : Around} {E : Value → Shared → Prop} {s : Shared} {h₀ : Heap} {L : Addr} {m : Str → Option Value} {news : Led} {D b : Addr} {its ys : List Value} {n : Nat} {g : Obj → Led} {Q : Value → Shared → Prop}
    (F : Fr h₀ L s.heap m) (N : News h₀ L s.heap news) (U : UpdF D (W.listOf its.toArray n) news g) (hb : (b, LCg.lst ys) ∈ news) (hne : ys.length ≠ 0) (hsz : its.length + ys.length ≤ 1000)
    (h : ∀ h', Fr h₀ L h' m → News h₀ L h' (g (W.listOf (its ++ ys).toArray (n + 1))) → Q .none { s with heap := h' }) :
    wpAny (model prog w) A (call (.builtin "list.extend") [.ref D, .ref b]) Q E s :=
  kl_extend (its := its.toArray) (its2 := ys.toArray) F N hb rfl hne (UpdF.toUpd U) (by simp only [Builtin.List.listTooLong, List.size_toArray, sizeLine_eq]; simp; omega) (by rw [sizeLine_eq]; show its.length ≤ _; omega) (by rw [sizeLine_eq]; show its.length + ys.length ≤ _; omega) h

end
theorem ln_ME_14 : True := by
  k_with "call builtin:list.extend" => (((k_here; (with_reducible show wpAny _ _ (call (Value.builtin _) [Value.ref _, Value.ref _]) _ _ _); k_dflt (refine' extend_L ?Fq9 ?Nq9 ?Uq9 ?bq9 ?neq9 ?zq9 ?_; (case Fq9 => k_asm); (case Nq9 => k_asm); (case Uq9 => k_updF); (case bq9 => k_mem); (case neq9 => assumption); (case zq9 => assumption)); (intro _ _ N'q9); (try dsimp only at N'q9))) <;> walk_at "hide9a")
  exact True.intro
section
set_option maxHeartbeats 4000000
theorem add_cons {prog : Program} {w : World} {A : Around} {E : Value → Shared → Prop} {s : Shared} {h₀ : Heap} {L : Addr} {m : Str → Option Value} {news : Led} {t b : Addr} {x : Value} {ws : List Value} {Q : Value → Shared → Prop}
    (F : Fr h₀ L s.heap m) (N : News h₀ L s.heap ((t, tupO [x]) :: news)) (hb : (b, tupO ws) ∈ news) (lt : AllLt t news) (hsz : ws.length ≤ 1000)
    (h : ∀ a h', Fr h₀ L h' m → News h₀ L h' ((a, tupO (x :: ws)) :: (t, tupO [x]) :: news) → (∀ p ∈ news, p.1 < a) → Q (.ref a) { s with heap := h' }) :
    wpAny (model prog w) A (binaryOp .Add (.ref t) (.ref b)) Q E s :=
  add_tuples (vs := [x]) (ws := ws) F N ⟨_, (N _ List.mem_cons_self).1, rfl, 0, rfl⟩ ⟨_, (N _ (List.mem_cons_of_mem _ hb)).1, rfl, 0, rfl⟩ (fun e => nomatch e)
    (fun _ e => by subst e; exact h t s.heap F (fun p hp => (List.mem_cons.mp hp).elim (fun q => q ▸ N _ List.mem_cons_self) (N p)) lt.mem)
    (fun _ _ h' F' N' => h _ h' F' N' fun p hp => Heap.lt_size (N p (List.mem_cons_of_mem _ hp)).1) (by rw [sizeLine_eq]; simp only [List.length_cons, List.length_nil]; omega)
theorem ln_ME_15 : True := by
  k_with "binaryOp Add ref ref" => (((k_here; k_dflt (refine' add_cons ?Fq9 ?Nq9 ?bq9 ?ltq9 ?zq9 ?_; (case Fq9 => k_asm); (case Nq9 => k_asm); (case bq9 => k_mem); (case ltq9 => assumption); (case zq9 => assumption)); intro _ _ _ _ l1q9; (try k_lt l1q9))) <;> walk_at "hide9a")
  exact True.intro
noncomputable def PartsC (w : World) (n₀ : Led) (U : Tm) (v : Value) : Prop := ∀ news' : Led, (∀ p ∈ n₀, p ∈ news') → Fn w 84 (4 * U.sz + 4) [v] news' (PartsPost news' U)
theorem PartsC.at {w : World} {n₀ : Led} {U : Tm} {v : Value} (C : PartsC w n₀ U v) (news' : Led) (k : ∀ p ∈ n₀, p ∈ news') : Fn w 84 (4 * U.sz + 4) [v] news' (PartsPost news' U) := C news' k
theorem ln_ME_16 : True := by
  k_with "eval ListComp Tuple cons" => (((k_here; (with_reducible rename Fr _ _ _ _ => F9q9); k_dflt (refine' comp_plain F9q9 ?hhq9 ?hclq9 ?hceq9 ?hkiq9 ?hnaq9 ?hsq9 ?_; (case hhq9 => exact rfl); (case hclq9 => exact rfl); (case hkiq9 => exact rfl); (case hceq9 => decide); (case hnaq9 => decide); (case hsq9 => (intro _; with_unfolding_all rfl))))) <;> walk_at "hide9a")
  k_with "call ref" => (k_here; (with_reducible show wpAny _ _ (call (Value.ref 84) [_]) _ _ _); k_dflt (refine' Fn.useK ?kCq9 ?kBq9 ?kFq9 ?kXq9 ?kNq9 ?kTq9 ?kkq9 ?kdq9 ?kuq9 ?_; (case kBq9 => k_asm); (case kFq9 => k_asm); (case kXq9 => k_asm); (case kNq9 => k_asm); (case kTq9 => k_asm); (case kkq9 => first | exact rfl | assumption); (case kCq9 => exact (PartsC.at ‹PartsC _ _ _ _› _ (by (k_extra "sub9")))); (case kdq9 => ktr_room); (case kuq9 => ktr_units)); (intro KQ9q9 hKQ9q9 _ _ _ _ _ _ _ P9q9); (obtain ⟨_, _, _, _, e1q9, e2q9, _, _, _, _⟩ := P9q9); (replace e1q9 := Eq.symm e1q9); (subst e1q9); (try subst e2q9); (refine hKQ9q9 _ _ _ _ ?_); (clear hKQ9q9 KQ9q9); (try dsimp only))
  exact True.intro

theorem parts_spec (w : World) : ∀ (T : Tm) (v : Value) (news : Led), Rel news v T → Fn w 84 (4 * T.sz + 4) [v] news (PartsPost news T) := by
  have main : ∀ (T : Tm), (∀ T', T'.sz < T.sz → ∀ v news, Rel news v T' → Fn w 84 (4 * T'.sz + 4) [v] news (PartsPost news T')) → ∀ v news, Rel news v T → Fn w 84 (4 * T.sz + 4) [v] news (PartsPost news T) := by
    intro tm IH v news hR
    obtain ⟨a, t, kvs, rfl, ha, hks, hkl⟩ := hR.open
    have hks2 : kvs.length < 1000 := by omega
    have hks0 := hks
    (w_top off; unfold Fn; intro loose mean mg mb dp un gd cn cs a9 ccd cl outer A₀ base h₀ L m s Q E B F X N T hk hdp hun hret; (have kf : KF (rgTop.heap_1 w.params) PySem.Challenge.rw_rg0118_01 := (by k_fill; trivial)); clear kf; refine wpAny_call ?_; k_dflt (refine' code_defC ?k1 ?k2 ?k3 ?k4 ?k5 ?kA ?kF ?kK ?k6 ?k7 ?k8 ?k9 ?kB ?kD ?_ ?c2 ?c3 ?c4; (case kA => exact rfl); (case kF => exact rfl); (case kK => assumption); (case k1 => k_asm); (case k2 => k_asm); (case k3 => k_asm); (case k4 => k_asm); (case k5 => k_asm); (case k6 => k_is); (case k7 => k_is); (case k8 => ktr_room); (case k9 => exact BindsTo.of_eq rfl); (case kB => exact rfl); (case kD => decide +kernel); (case c2 => exact rfl); (case c3 => exact rfl); (case c4 => exact rfl); k_whole; intro g' L' h' tk' cells' FG' F' N' Y' B' X' T' l1; (have l1b := tbn_up (ltN (Nat.lt_succ_self L')) (allLt_of l1)); (try simp only [AllLt, and_true] at l1b); (try k_lt l1); k_cells Y'; (try simp only [List.cons_append, List.nil_append] at N'); (try dsimp only); (try k_fold)))
    ((try k_fold); k_steps)
    rename_i okc dkc _ _ q0 hh1 lq p0 hh2 lp fd hh3 lf hh4 _ _ D hh5 F5 N5 lD e it hh6 oit F6 N6 hT le1 le2 le3
    refine loop_ind (fun k s' => Ex13 fun i its dn tl m' old oit okc v0 nn hh tk dr => And15 (k = kvs.length - i) (i ≤ kvs.length) (s' = { s with heap := hh, toks := tk, drawn := dr }) (Fr g' L' hh m') (m' (Str.ofString "found") = some (.ref fd)) (News g' L' hh ((e, enumO it i old) :: (it, oit) :: (fd, W.listOf its.toArray nn) :: (L'+1, okc) :: (D, tupO kvs) :: (tl ++ news))) (okc.data = .cell v0) (TIt oit D i) (PartsOk tm.sz (tl ++ news) its dn) (dn ++ (tm.kids.drop i).flatMap Tm.subs = tm.subs) (∀ p ∈ tl ++ news, p.1 ≠ e) (∀ p ∈ tl ++ news, p.1 ≠ it) (∀ p ∈ tl ++ news, p.1 ≠ fd) (∀ p ∈ tl ++ news, p.1 ≠ L'+1) (∀ p ∈ tl, ∀ q ∈ news, q.1 < p.1)) ?_ kvs.length _ ⟨0, [.ref p0], [tm], [(p0, tupO [.ref q0, .ref a]), (q0, tupO [])], _, .none, oit, okc, _, 0, hh6, _, _, by omega, by omega, rfl, F6, rfl, ?zn, dkc, hT, ?zp, ?zd, ?zx, ?zx2, ?zx3, ?zx4, ?zy⟩
    case zn => (refine News_sub N6 ?_; simp only [List.cons_append, List.nil_append]; (k_extra "sub9"))
    case zp => exact .cons ⟨p0, q0, a, [], rfl, by k_mem, by k_mem, Nat.zero_le _, hR.mono (by (k_extra "sub9"))⟩ .nil
    case zd => cases tm <;> rfl
    case zx => exact fapp (by (repeat' (first | exact List.forall_mem_nil _ | refine fcons ?_ ?_ | refine And.intro ?_ ?_ | (refine neN ?_; (try dsimp only); omega)))) (fun p hp => neN (by have := AllLt.mem l1b p hp; omega))
    case zx2 => exact fapp (by (repeat' (first | exact List.forall_mem_nil _ | refine fcons ?_ ?_ | refine And.intro ?_ ?_ | (refine neN ?_; (try dsimp only); omega)))) (fun p hp => neN (by have := AllLt.mem l1b p hp; omega))
    case zx3 => exact fapp (by (repeat' (first | exact List.forall_mem_nil _ | refine fcons ?_ ?_ | refine And.intro ?_ ?_ | (refine neN ?_; (try dsimp only); omega)))) (fun p hp => neN (by have := AllLt.mem l1b p hp; omega))
    case zx4 => exact fapp (by (repeat' (first | exact List.forall_mem_nil _ | refine fcons ?_ ?_ | refine And.intro ?_ ?_ | (refine neN ?_; (try dsimp only); omega)))) (fun p hp => neN (by have := AllLt.mem l1b p hp; omega))
    case zy => simp only [List.forall_mem_cons]; exact ⟨lp.2.2.mem, lq.2.mem, fun _ h => nomatch h⟩
    clear N6 hT F6 oit hh6 F5 N5 hh5 hh4 hh3 hh2 hh1
    rintro k s' ⟨i, its, dn, tl, m', old, oit, okc, v0, nn, hh, tkL, dr, rfl, hi, rfl, F, hfd, N, hkc, hT, hP, hdn, ho1, ho2, ho3, ho4, htl2'⟩ ih
    cases hx : kvs[i]? with
    | some v =>
      obtain ⟨U, hU, hRv, hUs⟩ := Paired.get hks hx
      (k_dflt (refine' enum_turn (l := (e, enumO it i old) :: (it, oit) :: (fd, W.listOf its.toArray nn) :: (L'+1, okc) :: (D, tupO kvs) :: (tl ++ news)) (g := fun o => (e, o) :: (it, oit) :: (fd, W.listOf its.toArray nn) :: (L'+1, okc) :: (D, tupO kvs) :: (tl ++ news)) (g2 := fun o o2 => (e, o) :: (it, o2) :: (fd, W.listOf its.toArray nn) :: (L'+1, okc) :: (D, tupO kvs) :: (tl ++ news)) ?hh ?F ?N ?U1 ?U2 ?hI ?ht ?hx ?ne ?_))
      case hI => assumption
      case hh => exact rfl
      case F => assumption
      case N => assumption
      case U1 => k_updF
      case U2 => (intro o9; k_updF)
      case ht => k_mem
      case hx => assumption
      case ne => (refine neN ?_; omega)
      intro h' tk' oit' F' N' hT'
      clear N F hT
      (try dsimp only at N')
      have hks : U.sz + 1 ≤ tm.sz := hUs
      have IHv : PartsC w (tl ++ news) U v := fun news' k => IH U hUs v news' (hRv.mono fun p hp => k p (List.mem_append_right _ hp))
      ((try k_fold); k_steps)
      rename_i h2 o2 d2 h3 F3 N3 _ _ _ _ h9 tk9 dr9 F9 tl9 l9 its9 n9 hP9 hx9 hy9 hz9 N9
      generalize hB : (e, enumO it ((i : Int) + 1) v) :: (it, oit') :: (fd, W.listOf its.toArray nn) :: (L' + 1, o2) :: (D, tupO kvs) :: (tl ++ news) = BASE at *
      generalize hW : (l9, W.listOf its9 n9) :: (tl9 ++ BASE) = W9 at *
      have hU5 : U.subs.length ≤ 5 := by cases U <;> exact Nat.le_of_ble_eq_true rfl
      have hlen9 : its9.toList.length = U.subs.length := Paired.length hP9
      refine ⟨l9, its9, n9, W9, fun j ys nw => Ex1 fun tl2 => And4 (nw = tl2 ++ W9) (PartsOk tm.sz nw ys (U.subs.take j)) (ys.length = j) (∀ p ∈ tl2, ∀ q ∈ W9, q.1 < p.1), rfl, F9, N9, hW ▸ List.mem_cons_self, ?za, ⟨[], rfl, .nil, rfl, fun _ h => nomatch h⟩, ?zb, ?zt, ?ze⟩
      case za => rw [← Array.length_toList]; omega
      case zb => rintro j ys nw ⟨tl2, _, _, h, _⟩; omega
      case zt =>
        rintro j v1 ys nw oI I C D' hh' tk' dr' mC E' hj ⟨tl2, rfl, hys, hyl, htl2⟩ hsub V off hit
        obtain ⟨T1, hT1, p, q, b, ws, rfl, hp, hq, hws, hb⟩ := Paired.get hP9 (i := j) (a := v1) (by simpa using hj)
        have up : ∀ p ∈ tl9 ++ BASE, p ∈ tl2 ++ W9 := fun p hp => hsub p (hW ▸ List.mem_cons_of_mem _ hp)
        refine cv_pair rfl V rfl rfl rfl rfl hit (up _ hp) fun h4 tk4 V4 => ?_
        obtain ⟨oC, hn, N4⟩ := V4.led
        have F4 := V4.F
        have hcm : (L' + 1, o2) ∈ (C, oC) :: (D', LCg.lst ys) :: (I, oI) :: (tl2 ++ W9) := List.mem_cons_of_mem _ (List.mem_cons_of_mem _ (List.mem_cons_of_mem _ (hsub _ (hW ▸ List.mem_cons_of_mem _ (List.mem_append_right _ ((hB ▸ by k_mem)))))))
        have hws2 : ws.length ≤ 1000 := Nat.le_trans hws (Nat.le_trans U.sz_le (by decide))
        have hqm : (q, tupO ws) ∈ (C, oC) :: (D', LCg.lst ys) :: (I, oI) :: (tl2 ++ W9) := List.mem_cons_of_mem _ (List.mem_cons_of_mem _ (List.mem_cons_of_mem _ (up _ hq)))
        ((try k_fold); k_steps)
        rename_i D1 h1 ll1 a1 hh2 ll2 D2 h3 F3' N3' ll3
        have oC : ∀ p ∈ (I, oI) :: (tl2 ++ W9), p.1 ≠ C := V4.offC
        have oD : ∀ p ∈ (I, oI) :: (tl2 ++ W9), p.1 ≠ D' := V4.offD
        have hmul : ∀ p ∈ tl2 ++ W9, p ∈ (D2, tupO [.ref a1, .ref b]) :: (a1, tupO (.int i tkL :: ws)) :: (D1, tupO [.int i tkL]) :: (tl2 ++ W9) := fun p hp => .tail _ (.tail _ (.tail _ hp))
        refine ⟨(D2, tupO [.ref a1, .ref b]) :: (a1, tupO (.int i tkL :: ws)) :: (D1, tupO [.int i tkL]) :: (tl2 ++ W9), _, _, _, _, rfl, V4.back hn F3' N3' (by k_mem) (by k_mem) (by (k_extra "sub9")) ?qa ?qb, hmul, ?qc, [(D2, _), (a1, _), (D1, _)] ++ tl2, rfl, ?qd, by rw [List.length_append, hyl]; rfl, ?qe⟩
        case qa => exact fcons (oC _ (.head _)) (fcons (by (refine neN ?_; omega)) (fcons (by (refine neN ?_; omega)) (fcons (by (refine neN ?_; omega)) (fun p hp => oC p (.tail _ hp)))))
        case qb => exact fcons (oD _ (.head _)) (fcons (by (refine neN ?_; omega)) (fcons (by (refine neN ?_; omega)) (fcons (by (refine neN ?_; omega)) (fun p hp => oD p (.tail _ hp)))))
        case qc => exact fcons (by (refine neN ?_; omega)) (fcons (by (refine neN ?_; omega)) (fcons (by (refine neN ?_; omega)) off))
        case qd =>
          rw [List.take_add_one, hT1]
          exact Paired.append (hys.mono hmul) (.cons ⟨D2, a1, b, _, rfl, by k_mem, by k_mem, Nat.le_trans (Nat.succ_le_succ hws) hks, hb.mono fun p hp => hmul p (up p hp)⟩ .nil)
        case qe =>
          have up9 : ∀ d, AllLt d (tl2 ++ W9) → ∀ q ∈ W9, q.1 < d := fun d h q hq => h.mem q (List.mem_append_right _ hq)
          exact fcons (up9 _ ll3.2.2.2.2.2) (fcons (up9 _ ll2.2.2.2) (fcons (up9 _ ll1.2.2.2) htl2))
      case ze =>
        rintro Dc ys nw hc tkc drc Fc Nc offc ltc hsub ⟨tl2, rfl, hys, hyl, htl2⟩
        have Nc2 : News g' L' hc ((e, enumO it ((i : Int) + 1) v) :: (it, oit') :: (fd, W.listOf its.toArray nn) :: (L' + 1, o2) :: (D, tupO kvs) :: ((D, tupO kvs) :: (Dc, LCg.lst ys) :: (tl2 ++ (l9, W.listOf its9 n9) :: (tl9 ++ tl)) ++ news)) := by
          refine News_sub Nc ?_
          subst hW hB
          (k_extra "sub9")
        have key : ∀ a o, (a, o) ∈ BASE → (∀ p ∈ tl ++ news, p.1 ≠ a) → D ≠ a → ∀ p ∈ ((D, tupO kvs) :: (Dc, LCg.lst ys) :: (tl2 ++ (l9, W.listOf its9 n9) :: (tl9 ++ tl))) ++ news, p.1 ≠ a := by
          intro a o ha hoff hDa
          have hW2 : (a, o) ∈ W9 := by rw [← hW]; exact .tail _ (List.mem_append_right _ ha)
          have q1 : Dc ≠ a := Ne.symm (offc _ (List.mem_append_right _ hW2))
          have q2 : ∀ p ∈ tl2, p.1 ≠ a := fun p hp => Nat.ne_of_gt (htl2 p hp _ hW2)
          have q3 : l9 ≠ a := Nat.ne_of_gt (hy9 _ ha)
          have q4 : ∀ p ∈ tl9, p.1 ≠ a := fun p hp => Nat.ne_of_gt (hx9 p hp _ ha)
          exact fapp (fcons hDa (fcons q1 (fapp q2 (fcons q3 (fapp q4 (fun p hp => hoff p (List.mem_append_left _ hp))))))) (fun p hp => hoff p (List.mem_append_right _ hp))
        have k1 := key e (enumO it ((i : Int) + 1) v) (by rw [← hB]; k_mem) ho1 (by (refine neN ?_; omega))
        have k2 := key it oit' (by rw [← hB]; k_mem) ho2 (by (refine neN ?_; omega))
        have k3 := key fd (W.listOf its.toArray nn) (by rw [← hB]; k_mem) ho3 (by (refine neN ?_; omega))
        have k4 := key (L' + 1) o2 (by rw [← hB]; k_mem) ho4 (by (refine neN ?_; omega))
        have k5 : ∀ p ∈ ((D, tupO kvs) :: (Dc, LCg.lst ys) :: (tl2 ++ (l9, W.listOf its9 n9) :: (tl9 ++ tl))), ∀ q ∈ news, q.1 < p.1 := by
          have hWn : ∀ q ∈ news, q ∈ BASE := by rw [← hB]; (k_extra "sub9")
          have hWn2 : ∀ q ∈ news, q ∈ W9 := fun q hq => by rw [← hW]; exact .tail _ (List.mem_append_right _ ((hWn q hq)))
          exact fcons lD.2.2.2.2.mem (fcons (fun q hq => ltc q (hWn2 q hq)) (fapp (fun p hp q hq => htl2 p hp q (hWn2 q hq)) (fcons (fun q hq => hy9 q (hWn q hq)) (fapp (fun p hp q hq => hx9 p hp q (hWn q hq)) htl2'))))
        have hl1 : its.length ≤ 5 := by
          have := Paired.length hP
          have h5 : tm.subs.length ≤ 5 := by cases tm <;> exact Nat.le_of_ble_eq_true rfl
          rw [← hdn, List.length_append] at h5
          omega
        have hys5 : ys.length ≤ 5 := by rw [hyl, ← Array.length_toList]; omega
        have hys0 : ys.length ≠ 0 := by
          rw [hyl, ← Array.length_toList, hlen9]
          cases U <;> exact Nat.succ_ne_zero _
        have hys9 : its.length + ys.length ≤ 1000 := by omega
        clear Nc
        ((try k_fold); k_steps)
        rename_i h8 F8 N8
        have hysF : PartsOk tm.sz (tl2 ++ W9) ys U.subs := by rw [List.take_of_length_le (by rw [← hlen9, Array.length_toList]; exact Nat.le_refl _)] at hys; exact hys
        have hkeep : ∀ a vs, (a, tupO vs) ∈ tl2 ++ W9 → (a, tupO vs) ∈ ((D, tupO kvs) :: (Dc, LCg.lst ys) :: (tl2 ++ (l9, W.listOf its9 n9) :: (tl9 ++ tl))) ++ news := by
          intro a vs h
          rw [← hW, ← hB] at h
          simp only [List.mem_append, List.mem_cons, Prod.mk.injEq, List.cons_append] at h ⊢
          rcases h with h | ⟨_, h⟩ | h | ⟨_, h⟩ | ⟨_, h⟩ | ⟨_, h⟩ | ⟨_, h⟩ | h | h | h
          · simp only [h, true_or, or_true]
          · exact absurd h (by simp [W.listOf])
          · simp only [h, true_or, or_true]
          · exact absurd h (by simp)
          · exact absurd (congrArg Obj.cls h) (by rw [hT'.cls]; simp)
          · exact absurd h (by simp [W.listOf])
          · exact absurd (congrArg Obj.data h) (by rw [d2]; simp)
          · exact .inl h
          · simp only [h, true_or, or_true]
          · simp only [h, true_or, or_true]
        have hi2 : i < kvs.length := (List.getElem?_eq_some_iff.mp hx).1
        have hsubs : dn ++ U.subs ++ (tm.kids.drop (i + 1)).flatMap Tm.subs = tm.subs := by
          rw [← hdn, List.append_assoc]
          congr 1
          have : tm.kids.drop i = U :: tm.kids.drop (i + 1) := by
            obtain ⟨hlt, he⟩ := List.getElem?_eq_some_iff.mp hU
            rw [List.drop_eq_getElem_cons hlt, he]
          rw [this]; rfl
        refine ih (kvs.length - (i + 1)) _ (by omega) ⟨i + 1, its ++ ys, dn ++ U.subs, ((D, tupO kvs) :: (Dc, LCg.lst ys) :: (tl2 ++ (l9, W.listOf its9 n9) :: (tl9 ++ tl))), _, v, oit', o2, _, nn + 1, h8, _, _, rfl, hi2, rfl, F8, hfd, N8, d2, hT', Paired.append (hP.mono (by (k_extra "sub9"))) (PartsOk.monoT hysF hkeep), hsubs, k1, k2, k3, k4, k5⟩
    | none =>
      have hi0 : kvs.length ≤ i := List.getElem?_eq_none_iff.mp hx
      (k_dflt (refine' enum_stop (l := (e, enumO it i old) :: (it, oit) :: (fd, W.listOf its.toArray nn) :: (L'+1, okc) :: (D, tupO kvs) :: (tl ++ news)) (g := fun o2 => (e, enumO it i old) :: (it, o2) :: (fd, W.listOf its.toArray nn) :: (L'+1, okc) :: (D, tupO kvs) :: (tl ++ news)) ?hh ?F ?N ?he ?U ?hI ?ht ?hx ?_))
      case hI => assumption
      case hh => exact rfl
      case F => assumption
      case N => assumption
      case he => k_mem
      case U => k_updF
      case ht => k_mem
      case hx => assumption
      intro h' o' F' N'
      clear N F hT
      (try dsimp only at N')
      ((try k_fold); k_steps)
      have hdn2 : dn = tm.subs := by
        rw [← hdn, List.drop_eq_nil_of_le (by rw [← Paired.length hks0]; exact hi0)]
        simp
      subst hdn2
      refine hret _ ((fd, W.listOf its.toArray nn) :: (tl ++ news)) _ _ _ (by assumption) (News_sub (by assumption) (by (k_extra "sub9"))) ⟨tl, fd, its.toArray, nn, rfl, rfl, hP, htl2', fun q hq => ?_, fun p hp => ho3 p (List.mem_append_left _ hp)⟩
      have h1 := l1b.mem q hq
      exact show @LT.lt Nat _ q.1 fd by omega
  intro T
  have all : ∀ n, ∀ T : Tm, T.sz < n → ∀ v news, Rel news v T → Fn w 84 (4 * T.sz + 4) [v] news (PartsPost news T) := by
    intro n
    induction n with
    | zero => intro T h; exact absurd h (Nat.not_lt_zero _)
    | succ n ih => exact fun T h => main T fun T' h' => ih T' (by omega)
  exact all _ T (Nat.lt_succ_self _)

end

section
set_option maxHeartbeats 4000000

noncomputable def isVar (x : Str) : Bool := Txt.slice x none (some 1) == Str.ofString "?"
noncomputable def Tm.isVar : Tm → Bool
  | .l x => Mine.isVar x | _ => false
noncomputable def Short (x : Str) : Prop := x.length ≤ 100
theorem Short.line {x : Str} (h : Short x) : x.length ≤ sizeLine := Nat.le_trans h (by rw [sizeLine_eq]; decide)
noncomputable def Tm.short (T : Tm) : Prop := ∀ x ∈ T.ends, Short x


end
theorem ln_MF_17 : True := by
  k_with "subscriptTail Name Slice str ref" => (k_here; (with_reducible show wpAny _ _ (subscriptTail _ (Expr.Slice none (some _) none _) (Value.str _ _) _) _ _ _); k_dflt (refine' slice_strN_ns (s := ⟨_, _, _, _, _⟩) ?Fq9 ?Nq9 ?_ ?hsq9 ?htq9 ?hszq9; (case Fq9 => k_asm); (case Nq9 => k_asm); (case hsq9 => with_unfolding_all rfl); (case htq9 => (intro _; with_unfolding_all rfl)); (case hszq9 => exact Short.line (by assumption))); intro _ _ _ _ _)
  exact True.intro
section
set_option maxHeartbeats 4000000

theorem is_variable_spec (w : World) (T : Tm) (v : Value) (news : Led) (R : Rel news v T) (hT : T.short) : Fn w 74 2 [v] news (fun news' r => news' = news ∧ r = .bool T.isVar) := by
  cases R with
  | l h1 =>
    rename_i a x t
    have hx : Short x := hT x (by simp [Tm.ends])
    (w_top off; unfold Fn; intro loose mean mg mb dp un gd cn cs a9 ccd cl outer A₀ base h₀ L m s Q E B F X N T hk hdp hun hret; (have kf : KF (rgTop.heap_1 w.params) PySem.Challenge.rw_rg0118_01 := (by k_fill; trivial)); clear kf; refine wpAny_call ?_; k_dflt ktr_enter)
    ((try k_fold); k_steps)
    exact hret _ _ _ _ _ (by assumption) (by assumption) ⟨rfl, rfl⟩
  | f h1 h2 =>
    (w_top off; unfold Fn; intro loose mean mg mb dp un gd cn cs a9 ccd cl outer A₀ base h₀ L m s Q E B F X N T hk hdp hun hret; (have kf : KF (rgTop.heap_1 w.params) PySem.Challenge.rw_rg0118_01 := (by k_fill; trivial)); clear kf; refine wpAny_call ?_; k_dflt ktr_enter)
    ((try k_fold); k_steps)
    exact hret _ _ _ _ _ (by assumption) (by assumption) ⟨rfl, rfl⟩
  | gll h1 h2 h3 =>
    (w_top off; unfold Fn; intro loose mean mg mb dp un gd cn cs a9 ccd cl outer A₀ base h₀ L m s Q E B F X N T hk hdp hun hret; (have kf : KF (rgTop.heap_1 w.params) PySem.Challenge.rw_rg0118_01 := (by k_fill; trivial)); clear kf; refine wpAny_call ?_; k_dflt ktr_enter)
    ((try k_fold); k_steps)
    exact hret _ _ _ _ _ (by assumption) (by assumption) ⟨rfl, rfl⟩
  | gfl h1 h2 h3 h4 =>
    (w_top off; unfold Fn; intro loose mean mg mb dp un gd cn cs a9 ccd cl outer A₀ base h₀ L m s Q E B F X N T hk hdp hun hret; (have kf : KF (rgTop.heap_1 w.params) PySem.Challenge.rw_rg0118_01 := (by k_fill; trivial)); clear kf; refine wpAny_call ?_; k_dflt ktr_enter)
    ((try k_fold); k_steps)
    exact hret _ _ _ _ _ (by assumption) (by assumption) ⟨rfl, rfl⟩
  | gff h1 h2 h3 h4 h5 =>
    (w_top off; unfold Fn; intro loose mean mg mb dp un gd cn cs a9 ccd cl outer A₀ base h₀ L m s Q E B F X N T hk hdp hun hret; (have kf : KF (rgTop.heap_1 w.params) PySem.Challenge.rw_rg0118_01 := (by k_fill; trivial)); clear kf; refine wpAny_call ?_; k_dflt ktr_enter)
    ((try k_fold); k_steps)
    exact hret _ _ _ _ _ (by assumption) (by assumption) ⟨rfl, rfl⟩

end

section
set_option maxHeartbeats 4000000
noncomputable def dd : List Str → List Str
  | [x, y] => if x = y then [x] else [x, y]
  | l => l
noncomputable def sortV : List Str → List Str
  | [x, y] => if ltCps x.cps.toList y.cps.toList then [x, y] else [y, x]
  | l => l
noncomputable def Tm.vars (T : Tm) : List Str := sortV (dd ((T.subs.filter Tm.isVar).map Tm.op))
theorem StrsAre_append : ∀ {vs ws : List Value} {ss ts : List Str}, StrsAre vs ss → StrsAre ws ts → StrsAre (vs ++ ws) (ss ++ ts) := by
  intro _ _ _ _ h k
  induction h with
  | nil => exact k
  | cons y t _ ih => exact .cons y t ih
theorem ddv_dd {ss : List Str} {vs : List Value} (hS : StrsAre vs ss) (hl : ss.length ≤ 2) : (ddv (ss.zip vs)).map (·.1) = dd ss := by
  cases hS with
  | nil => rfl
  | cons x t r => cases r with
    | nil => simp [ddv, dd]
    | cons y u r => cases r with
      | nil =>
        by_cases h : x = y
        · subst h; simp [ddv, dd]
        · simp [ddv, dd, h]
      | cons => simp at hl
theorem dd_length {l : List Str} (h : l.length ≤ 2) : (dd l).length ≤ 2 := by
  rcases l with _ | ⟨x, _ | ⟨y, _ | ⟨z, r⟩⟩⟩
  · exact Nat.zero_le _
  · exact Nat.le_succ _
  · show (if x = y then [x] else [x, y]).length ≤ 2
    by_cases e : x = y
    · rw [if_pos e]; exact Nat.le_succ _
    · rw [if_neg e]; exact Nat.le_refl _
  · exact absurd h (by simp)
theorem sort_unique {ss l : List Str} (hp : ss.Perm l) (hl : l.length ≤ 2) (hs : sortedS ss = true) : ss = sortV l := by
  have h1 := hp.length_eq
  rcases l with _ | ⟨x, _ | ⟨y, _ | ⟨z, r⟩⟩⟩
  · simpa [sortV] using hp
  · simpa [sortV] using hp
  · rcases ss with _ | ⟨a, _ | ⟨b, _ | ⟨c, r⟩⟩⟩
    · exact nomatch h1
    · exact nomatch h1
    · skip
      simp only [sortedS, risingS, Bool.and_true, Bool.not_eq_true'] at hs
      have hm : a = x ∧ b = y ∨ a = y ∧ b = x := by
        have ha : a ∈ [x, y] := hp.mem_iff.mp (.head _)
        simp at ha
        rcases ha with rfl | rfl
        · have := (List.perm_cons a).mp hp; simp at this; exact .inl ⟨rfl, this⟩
        · have := (List.perm_cons a).mp (hp.trans (List.Perm.swap _ _ _)); simp at this; exact .inr ⟨rfl, this⟩
      have anti : ∀ a b : Str, ltCps a.cps.toList b.cps.toList = false → ltCps b.cps.toList a.cps.toList = false → a = b := by
        intro a b h1 h2
        rw [ltCps_eq] at h1 h2
        have h1 := of_decide_eq_false h1
        have h2 := of_decide_eq_false h2
        have := List.le_antisymm (List.not_lt.mp h2) (List.not_lt.mp h1)
        cases a; cases b
        simp at this
        rw [this]
      rcases hm with ⟨rfl, rfl⟩ | ⟨rfl, rfl⟩
      · show [a, b] = if ltCps a.cps.toList b.cps.toList = true then [a, b] else [b, a]
        by_cases h : ltCps a.cps.toList b.cps.toList = true
        · rw [if_pos h]
        · rw [anti a b (by simpa using h) hs, ite_self]
      · show [a, b] = if ltCps b.cps.toList a.cps.toList = true then [b, a] else [a, b]
        rw [hs, if_neg (by decide)]
    · exact nomatch h1
  · exact absurd hl (by simp)

end
theorem ln_MW_18 : True := by
  k_with "eval ListComp Subscript cons" => (((k_here; (with_reducible rename Fr _ _ _ _ => F9q9); k_dflt (refine' comp_test F9q9 ?hhq9 ?hclq9 ?hceq9 ?hkiq9 ?hnaq9 ?hsq9 ?_; (case hhq9 => exact rfl); (case hclq9 => exact rfl); (case hkiq9 => exact rfl); (case hceq9 => decide); (case hnaq9 => decide); (case hsq9 => (intro _; with_unfolding_all rfl))))) <;> walk_at "hide9a")
  k_with "call ref" => (k_here; (with_reducible show wpAny _ _ (call (Value.ref 84) [_]) _ _ _); k_dflt (refine' Fn.useK ?kCq9 ?kBq9 ?kFq9 ?kXq9 ?kNq9 ?kTq9 ?kkq9 ?kdq9 ?kuq9 ?_; (case kBq9 => k_asm); (case kFq9 => k_asm); (case kXq9 => k_asm); (case kNq9 => k_asm); (case kTq9 => k_asm); (case kkq9 => first | exact rfl | assumption); (case kCq9 => exact (parts_spec _ _ _ _ (Rel.mono ‹Rel _ _ _› (by (k_extra "sub9"))))); (case kdq9 => ktr_room); (case kuq9 => ktr_units)); (intro KQ9q9 hKQ9q9 _ _ _ _ _ _ _ P9q9); (obtain ⟨_, _, _, _, e1q9, e2q9, _, _, _, _⟩ := P9q9); (replace e1q9 := Eq.symm e1q9); (subst e1q9); (try subst e2q9); (refine hKQ9q9 _ _ _ _ ?_); (clear hKQ9q9 KQ9q9); (try dsimp only))
  k_with "call ref" => (k_here; (with_reducible show wpAny _ _ (call (Value.ref 74) [_]) _ _ _); k_dflt (refine' Fn.useK ?kCq9 ?kBq9 ?kFq9 ?kXq9 ?kNq9 ?kTq9 ?kkq9 ?kdq9 ?kuq9 ?_; (case kBq9 => k_asm); (case kFq9 => k_asm); (case kXq9 => k_asm); (case kNq9 => k_asm); (case kTq9 => k_asm); (case kkq9 => first | exact rfl | assumption); (case kCq9 => exact (is_variable_spec _ _ _ _ (Rel.mono ‹Rel _ _ _› (by (k_extra "sub9"))) (by assumption))); (case kdq9 => ktr_room); (case kuq9 => ktr_units)); (intro KQ9q9 hKQ9q9 _ _ _ _ _ _ _ P9q9); (obtain ⟨e1q9, e2q9⟩ := P9q9); (replace e1q9 := Eq.symm e1q9); (subst e1q9); (try subst e2q9); (refine hKQ9q9 _ _ _ _ ?_); (clear hKQ9q9 KQ9q9); (try dsimp only))
  exact True.intro
section
set_option maxHeartbeats 4000000
theorem Tm.short.subs {T U : Tm} (h : T.short) (hU : U ∈ T.subs) : U.short := by
  intro x hx
  apply h
  cases T <;> simp [Tm.subs] at hU <;> (rcases hU with rfl | rfl | rfl | rfl | rfl) <;> simp [Tm.ends] at hx ⊢ <;> first | exact hx | exact .inl hx | exact .inr hx
theorem variables_spec (w : World) (tm : Tm) (v : Value) (news : Led) (R : Rel news v tm) (hT : tm.short) (hl : (tm.subs.filter Tm.isVar).length ≤ 2) :
    Fn w 79 20 [v] news (fun news' r => Ex3 fun l vs n => And4 (news' = (l, W.listOf vs.toArray n) :: news) (r = .ref l) (StrsAre vs tm.vars) (∀ q ∈ news, q.1 < l)) := by
  have hsz := tm.sz_le
  (w_top off; unfold Fn; intro loose mean mg mb dp un gd cn cs a9 ccd cl outer A₀ base h₀ L m s Q E B F X N T hk hdp hun hret; (have kf : KF (rgTop.heap_1 w.params) PySem.Challenge.rw_rg0118_01 := (by k_fill; trivial)); clear kf; refine wpAny_call ?_; k_dflt ktr_enter)
  ((try k_fold); k_steps)
  rename_i h9 tk9 dr9 F9 tl9 l9 its9 n9 hP9 hx9 hy9 hz9 N9
  have hS5 : tm.subs.length ≤ 5 := by cases tm <;> exact Nat.le_of_ble_eq_true rfl
  have hlen9 : its9.toList.length = tm.subs.length := Paired.length hP9
  refine ⟨l9, its9, n9, (l9, W.listOf its9 n9) :: (tl9 ++ news), fun j ys nw => nw = (l9, W.listOf its9 n9) :: (tl9 ++ news) ∧ StrsAre ys (((tm.subs.take j).filter Tm.isVar).map Tm.op) ∧ ys.length ≤ j, rfl, F9, N9, List.mem_cons_self, by rw [← Array.length_toList]; omega, ⟨rfl, .nil, Nat.le_refl _⟩, fun j ys nw h => h.2.2, ?zt, ?ze⟩
  case zt =>
    rintro j v1 ys nw oI I C D' hh' tk' dr' mC E' hj ⟨rfl, hys, hyl⟩ hsub V off hit
    obtain ⟨T1, hT1, p, q, b, ws, rfl, hp, hq, hws, hb⟩ := Paired.get hP9 (i := j) (a := v1) (by simpa using hj)
    have hT1s : T1.short := hT.subs (List.mem_of_getElem? hT1)
    obtain ⟨a5, t5, kv5, e5, hb5, hks5, hkl5⟩ := hb.open
    cases e5
    refine cv_pair rfl V rfl rfl rfl rfl hit (List.mem_cons_of_mem _ hp) fun h4 tk4 V4 => ?_
    obtain ⟨oC, hn, N4⟩ := V4.led
    have F4 := V4.F
    ((try k_fold); k_steps)
    · rename_i hA tkA drA FA NA hv
      refine ⟨(l9, W.listOf its9 n9) :: (tl9 ++ news), _, _, _, _, rfl, V4.back hn FA NA (by k_mem) (by k_mem) (by (k_extra "sub9")) V4.offC V4.offD, fun _ h => h, off, rfl, ?_, by rw [List.length_append]; exact Nat.succ_le_succ hyl⟩
      rw [List.take_add_one, hT1, List.filter_append, List.map_append]
      refine StrsAre_append hys ?_
      simp only [Option.toList, List.filter_cons, hv, if_true, List.filter_nil, List.map_cons, List.map_nil]
      exact .cons _ _ .nil
    · rename_i hA tkA drA FA NA hv
      refine ⟨(l9, W.listOf its9 n9) :: (tl9 ++ news), _, _, _, _, rfl, V4.back hn FA NA (by k_mem) (by k_mem) (by (k_extra "sub9")) V4.offC V4.offD, fun _ h => h, off, rfl, ?_, Nat.le_succ_of_le hyl⟩
      rw [List.take_add_one, hT1, List.filter_append, List.map_append]
      simp only [Option.toList, List.filter_cons, hv, Bool.false_eq_true, if_false, List.filter_nil, List.map_nil, List.append_nil]
      exact hys
  case ze =>
    rintro Dc ys nw hc tkc drc Fc Nc offc ltc hsub ⟨rfl, hys, hyl⟩
    rw [List.take_of_length_le (by rw [← hlen9, Array.length_toList]; exact Nat.le_refl _)] at hys
    have hl2 : ((tm.subs.filter Tm.isVar).map Tm.op).length ≤ 2 := by rw [List.length_map]; exact hl
    ((try k_fold); k_steps)
    rename_i hB tkB dB DB vsB ssB eB FB NB SB PB RB lB kFB kNB TcB kXB
    rw [ddv_dd hys hl2] at PB
    have hss : ssB = tm.vars := sort_unique PB (dd_length hl2) RB
    subst hss
    refine hret _ ((DB, W.listOf vsB.toArray eB) :: news) _ _ _ kFB (News_sub kNB (by (k_extra "sub9"))) ⟨DB, vsB, eB, rfl, rfl, SB, fun q hq => lB.2.2.2.mem q (List.mem_append_right _ hq)⟩

end

section
set_option maxHeartbeats 4000000
open PyProof.Rows.LCg
section
variable {prog : Program} {w : World} {A : Around} {E : Value → Shared → Prop} {h₀ : Heap} {L : Addr} {m : Str → Option Value} {env : Env} {s : Shared}

theorem comp_tup {elt tg it : PySem.Expr} {ifs : List PySem.Expr} {gs : List Comprehension} {scope : Scope} {pos : Pos} {cl : List (Str × Addr)} {Q : Value → Shared → Prop} (body : Addr → Addr → Env → Value → Sem Fin)
    (hh : A.handled = none) (hclos : closureFor scope env = pure cl) (hcell : ∀ y ∈ scope.names, y.2 ≠ .cell) (hkind : scope.kind = .function) (hnames : ∀ y ∈ scope.names, y.2 = .local → scope.names.lookup y.1 = some .local)
    (hturn : ∀ I D cenv, compTurn (.ListComp elt (⟨tg, it, ifs, 0⟩ :: gs) scope pos) 0 (.ref I) (.ref D) cenv = standAt it.pos >>= fun _ => pyNext (.ref I) >>= fun r => match r with
      | none => pure (.done .next)
      | some v => body I D cenv v)
    (hs : ∀ x, foldedSetIterable it env x = pure x)
    (h : wpAny (model prog w) A (eval it env) (fun xv s₁ => Ex4 fun ax vs l (J : Nat → List Value → Led → Prop) => And7 (xv = .ref ax) (Fr h₀ L s₁.heap m) (News h₀ L s₁.heap l) ((ax, tupO vs) ∈ l) (J 0 [] l) (∀ i v ys nw oI I C D h tk dr mC (E' : Value → Shared → Prop), vs[i]? = some v → J i ys nw → (∀ p ∈ l, p ∈ nw) → CV h₀ L m C D mC ys ((I, oI) :: nw) h → (∀ p ∈ nw, p.1 ≠ I) → h.IsTupleIter I ax (i + 1) →
        wpAny (model prog w) A (body I D (compEnvC scope cl C env) v) (fun fin s' => fin = .again (.compLoop (.ListComp elt (⟨tg, it, ifs, 0⟩ :: gs) scope pos) 0 (.ref I) (.ref D) (compEnvC scope cl C env)) ∧ CvBody h₀ L m C D I oI nw (J (i + 1)) s₁ s') E' { s₁ with heap := h, toks := tk, drawn := dr }) (∀ D ys nw h tk dr, Fr h₀ L h m → News h₀ L h ((D, lst ys) :: nw) → (∀ p ∈ nw, p.1 ≠ D) → (∀ p ∈ l, p.1 < D) → (∀ p ∈ l, p ∈ nw) → J vs.length ys nw → Q (.ref D) { s₁ with heap := h, toks := tk, drawn := dr })) E s) :
    wpAny (model prog w) A (eval (.ListComp elt (⟨tg, it, ifs, 0⟩ :: gs) scope pos) env) Q E s := by
  rw [eval_ListComp]
  refine wpAny_comprehension_free (use := none) rfl hs hclos hkind hnames (wpAny_mono h (fun xv s₁ h₁ => ?_) fun _ _ e => e)
  obtain ⟨ax, vs, l, J, rfl, F, N, hm, hJ, hb, hQ⟩ := h₁
  have hax := N _ hm
  have hl : s₁.heap.IsTuple ax vs.toArray := ⟨_, hax.1, rfl, 0, rfl⟩
  have hlt : ax < s₁.heap.objs.size := Heap.lt_size hax.1
  refine wpAny_pyIter_tuple hl ?_
  generalize hH : s₁.heap.push { cls := .type "tuple_iterator", data := .fields #[.ref ax, .int 0 0] } = H
  have up : ∀ b o, s₁.heap.get? b = some o → H.get? b = some o := fun b o e => hH ▸ Heap.get?_push_of_some _ e
  have hIt : H.IsTupleIter s₁.heap.objs.size ax 0 := ⟨_, hH ▸ Heap.get?_push_size _ rfl, rfl, rfl⟩
  have hsz : H.objs.size = s₁.heap.objs.size + 1 := by rw [← hH, Heap.size_push]
  have fr0 : h₀.get? s₁.heap.objs.size = none := by
    cases e : h₀.get? s₁.heap.objs.size with
    | none => rfl
    | some o' => exact absurd (Heap.lt_size (F.keep _ o' e)) (Nat.lt_irrefl _)
  refine comp_open (s₂ := { s₁ with heap := H }) (fun ys nw => (∀ p ∈ l, p ∈ nw) ∧ J vs.length ys nw) (F.keeps up) (News.grown N up) (by show _ < H.objs.size; rw [hsz]; exact Nat.lt_succ_self _) hcell hkind (fun s' Q' E' k q => wpAny_pyIter_tupleiter (hIt.at fun o e => k _ o e) q) (fun C D hC tk V hCI hDI k => ?_) (fun D ys nw hD tk dr F' N' o' lt' fin => hQ D ys nw hD tk dr F' N' o' lt' fin.1 fin.2)
  have hoffI : ∀ p ∈ l, p.1 ≠ s₁.heap.objs.size := fun p hp => Nat.ne_of_lt (Heap.lt_size (N p hp).1)
  have W := Walks.tuple (prog := prog) (w := w) hh s₁.heap.objs.size ax (Nat.ne_of_lt hlt) vs.toArray
  refine cv_loop (news := l) J W (fun i h st => by obtain ⟨o, e, _⟩ := st.1; exact ⟨o, e⟩) (fun i h h' o nw st e e' ks N' => ⟨by obtain ⟨o', q, r⟩ := st.1; rw [e] at q; cases q; exact ⟨o, e', r⟩, ⟨_, (N' _ (ks _ hm)).1, rfl, 0, rfl⟩⟩) rfl rfl (hturn _ _ _) rfl (fun i v ys nw oI h tk dr mC E' hlt hP hJ' hsub V' hst' hoff' => hb i v ys nw oI _ C D h tk dr mC E' (by simpa using hP) hJ' hsub V' hoff' hst'.1) hCI hDI (Nat.ne_of_lt F.ns.lt) fr0 V ⟨hIt.at fun o e => k _ o e, hl.at fun o e => k _ _ (up _ o e)⟩ hoffI hJ (fun ys' nw' h' tk' dr' mC' V' hs' hJ' => ⟨ys', nw', h', tk', dr', mC', rfl, rfl, V', hs', hJ'⟩)

theorem comp_plainT (_ : Fr h₀ L s.heap m) {elt tg it : PySem.Expr} {scope : Scope} {pos : Pos} {cl : List (Str × Addr)} {Q : Value → Shared → Prop}
    (hh : A.handled = none) (hclos : closureFor scope env = pure cl) (hcell : ∀ y ∈ scope.names, y.2 ≠ .cell) (hkind : scope.kind = .function) (hnames : ∀ y ∈ scope.names, y.2 = .local → scope.names.lookup y.1 = some .local)
    (hs : ∀ x, foldedSetIterable it env x = pure x)
    (h : wpAny (model prog w) A (eval it env) (fun xv s₁ => Hold (Ex4 fun ax vs l (J : Nat → List Value → Led → Prop) => And9 (xv = .ref ax) (Fr h₀ L s₁.heap m) (News h₀ L s₁.heap l) ((ax, tupO vs) ∈ l) (vs.length ≤ 1000) (J 0 [] l) (∀ i ys nw, J i ys nw → ys.length ≤ i) (∀ i v ys nw oI I C D h tk dr mC (E' : Value → Shared → Prop), vs[i]? = some v → J i ys nw → (∀ p ∈ l, p ∈ nw) → CV h₀ L m C D mC ys ((I, oI) :: nw) h → (∀ p ∈ nw, p.1 ≠ I) → h.IsTupleIter I ax (i + 1) →
        wpAny (model prog w) A (letOwnedTupleGo tg (.ref I) v) (fun _ s₂ => wpAny (model prog w) A (assign tg (compEnvC scope cl C env) v) (fun _ s₃ => wpAny (model prog w) A (eval elt (compEnvC scope cl C env)) (CvElt h₀ L m C D I oI ys nw (J (i + 1)) s₁) E' s₃) E' s₂) E' { s₁ with heap := h, toks := tk, drawn := dr }) (∀ D ys nw h tk dr, Fr h₀ L h m → News h₀ L h ((D, lst ys) :: nw) → (∀ p ∈ nw, p.1 ≠ D) → (∀ p ∈ l, p.1 < D) → (∀ p ∈ l, p ∈ nw) → J vs.length ys nw → Q (.ref D) { s₁ with heap := h, toks := tk, drawn := dr }))) E s) :
    wpAny (model prog w) A (eval (.ListComp elt [⟨tg, it, [], 0⟩] scope pos) env) Q E s := by
  refine comp_tup (h₀ := h₀) (L := L) (m := m) (fun I D cenv v => letOwnedTupleGo tg (.ref I) v >>= fun _ => assign tg cenv v >>= fun _ =>
        (eval elt cenv >>= fun x => call (.builtin "list.append") [.ref D, x] >>= fun _ => pure ()) >>= fun _ => again (.compLoop (.ListComp elt [⟨tg, it, [], 0⟩] scope pos) 0 (.ref I) (.ref D) cenv)) hh hclos hcell hkind hnames (fun I D cenv => rfl) hs (wpAny_mono h (fun xv s₁ h₁ => ?_) fun _ _ e => e)
  obtain ⟨ax, vs, l, J, e, F, N, hm, hsz, hJ, hlen, hb, hQ⟩ := h₁
  refine ⟨ax, vs, l, J, e, F, N, hm, hJ, fun i v ys nw oI I C D h tk dr mC E' hi hJ' hsub V off hit => ?_, hQ⟩
  have hlt : i < vs.length := (List.getElem?_eq_some_iff.mp hi).1
  refine wpAny_bind (wpAny_mono (hb i v ys nw oI I C D h tk dr mC E' hi hJ' hsub V off hit) (fun _ s₂ h₂ => wpAny_bind (wpAny_mono h₂ (fun _ s₃ h₃ => wpAny_bind (wpAny_bind (wpAny_mono h₃ (fun y s₄ h₄ => ?_) fun _ _ e => e))) fun _ _ e => e)) fun _ _ e => e)
  obtain ⟨nw', h', tk', dr', mC', rfl, V', hs', ho', hJ₂⟩ := h₄
  refine wpAny_bind (cv_append (s := { s₁ with heap := h', toks := tk', drawn := dr' }) V' (by have := hlen _ _ _ hJ'; rw [sizeLine_eq]; omega) fun h'' V'' => wpAny_pure (wpAny_pure ⟨rfl, ys ++ [y], nw', h'', tk', dr', mC', rfl, V'', hs', ho', hJ₂⟩))

end

section
variable {prog : Program} {w : World} {K : Type} [DecidableEq K] {knd : PySem.KeyKind prog w K} {A : Around} {E : Value → Shared → Prop} {s : Shared} {h₀ : Heap} {L d : Addr} {m : Str → Option Value} {news : Led} {o : Obj} {kvs : List (K × Value)} {k : K} {key dflt : Value}
theorem kda_get {Q : Value → Shared → Prop} (N : News h₀ L s.heap news) (hp : (d, o) ∈ news) (hd : o.IsDictOf knd kvs) (lo : (d == sysModules) = false) (hkey : knd.is k key = true) (h : Q ((valueAt kvs k).getD dflt) { s with toks := s.toks + 1 }) :
    wpAny (model prog w) A (call (.builtin "dict.get") [.ref d, key, dflt]) Q E s :=
  have hD := kda_dict N hp hd
  call_meetsIn PySem.F.slot_dict_get hD.typeIs PySem.F.entry_dict_get (PySem.F.args_dict_get_3 _ _ _) (meets_dict_get_default knd d hkey lo dflt) ⟨_, hD.mapOf, h⟩
theorem kd_method {name : Str} {id : String} {pl : Sem Bool} {Q : Value × List Value → Shared → Prop} (N : News h₀ L s.heap news) (hm : (d, o) ∈ news) (hd : o.IsDictOf knd kvs) (slot : PySem.Slot "dict" name id) (hty : typeOf (.builtin id) = pure (.type "method_descriptor"))
    (h : Q (.builtin id, [.ref d]) s) : wpAny (model prog w) A (getMethod (.ref d) name pl) Q E s := by
  obtain ⟨es, ep, hex, _⟩ := hd
  exact getMethod_builtin ⟨_, (N _ hm).1, hex.1⟩ PySem.F.plainAttrs_dict slot hty (fun a e => by cases e; exact ⟨_, (N _ hm).1, hex.2.1⟩) h
end
section
variable {prog : Program} {w : World} {A : Around} {E : Value → Shared → Prop} {s : Shared} {h₀ : Heap} {L : Addr} {m : Str → Option Value} {news : Led} {t b : Addr} {x y : Value} {vs ws : List Value}
theorem add_nil {Q : Value → Shared → Prop} (F : Fr h₀ L s.heap m) (N : News h₀ L s.heap news) (ht : (t, tupO (x :: vs)) ∈ news) (hb : (b, tupO []) ∈ news) (hsz : vs.length ≤ 1000) (h : Q (.ref t) s) :
    wpAny (model prog w) A (binaryOp .Add (.ref t) (.ref b)) Q E s :=
  add_tuples (vs := x :: vs) (ws := []) F N ⟨_, (N _ ht).1, rfl, 0, rfl⟩ ⟨_, (N _ hb).1, rfl, 0, rfl⟩ (fun e => nomatch e) (fun _ _ => h) (fun _ e => absurd rfl e) (by rw [sizeLine_eq]; simp only [List.length_cons, List.length_nil]; omega)
theorem add_new {Q : Value → Shared → Prop} (F : Fr h₀ L s.heap m) (N : News h₀ L s.heap news) (ht : (t, tupO (x :: vs)) ∈ news) (hb : (b, tupO (y :: ws)) ∈ news) (hsz : vs.length ≤ 1000) (hsz2 : ws.length ≤ 1000)
    (h : ∀ D h', Fr h₀ L h' m → News h₀ L h' ((D, tupO (x :: vs ++ y :: ws)) :: news) → (∀ p ∈ news, p.1 < D) → Q (.ref D) { s with heap := h' }) :
    wpAny (model prog w) A (binaryOp .Add (.ref t) (.ref b)) Q E s :=
  add_tuples (vs := x :: vs) (ws := y :: ws) F N ⟨_, (N _ ht).1, rfl, 0, rfl⟩ ⟨_, (N _ hb).1, rfl, 0, rfl⟩ (fun e => nomatch e) (fun _ e => nomatch e) (fun _ _ h' F' N' => h _ h' F' N' fun p hp => Heap.lt_size (N p hp).1) (by rw [sizeLine_eq]; simp only [List.length_cons]; omega)
end

noncomputable def fillS (σ : Str → Option Str) (x : Str) : Str := if isVar x then (σ x).getD x else x
noncomputable def Tm.fill (σ : Str → Option Str) : Tm → Tm
  | .l x => .l (fillS σ x) | .f x => .f (fillS σ x) | .gll x y => .gll (fillS σ x) (fillS σ y) | .gfl x y => .gfl (fillS σ x) (fillS σ y) | .gff x y => .gff (fillS σ x) (fillS σ y)
noncomputable def TabOk (w : World) (news : Led) (kvs : List (Str × Value)) (σ : Str → Option Str) : Prop :=
  ∀ x, (σ x = none → valueAt kvs x = none) ∧ (∀ y, σ x = some y → Ex2 fun a t => And2 (valueAt kvs x = some (Value.ref a)) ((a, tupO [.str y t]) ∈ news))


end
theorem ln_MX_19 : True := by
  k_with "getMethod ref" => (k_here; (with_reducible show wpAny _ _ (getMethod (Value.ref _) (Str.ofString "get") _) _ _ _); k_dflt (refine' kd_method (knd := PySem.strKind _ _) ?Nq9 ?mq9 ?dq9 PySem.F.slot_dict_get PySem.F.type_dict_get ?_; (case dq9 => assumption); (case Nq9 => k_asm); (case mq9 => k_mem)))
  k_with "binaryOp Add ref ref" => (((k_here; k_dflt (first | (refine' add_nil ?Fq9 ?Nq9 ?tq9 ?bq9 ?zq9 ?_; (case Fq9 => k_asm); (case Nq9 => k_asm); (case tq9 => k_mem); (case bq9 => k_mem); (case zq9 => exact Nat.le_of_ble_eq_true rfl)) | (refine' add_new ?Fq9 ?Nq9 ?tq9 ?bq9 ?zq9 ?z2q9 ?_; (case Fq9 => k_asm); (case Nq9 => k_asm); (case tq9 => k_mem); (case bq9 => k_mem); (case zq9 => exact Nat.le_of_ble_eq_true rfl); (case z2q9 => first | assumption | exact Nat.le_of_ble_eq_true rfl); (intro _ _ _ _ l1q9); (try k_lt l1q9))))) <;> walk_at "hide9a")
  k_with "call builtin:dict.get" => (k_here; (with_reducible show wpAny _ _ (call (Value.builtin _) [Value.ref _, Value.str _ _, _]) _ _ _); k_dflt (refine' kda_get ?Nq9 ?mq9 ?dq9 ?lq9 (strKind_is _ _ _ _) ?_; (case dq9 => assumption); (case Nq9 => k_asm); (case mq9 => k_mem); (case lq9 => assumption)))
  k_with "eval ListComp Call cons" => (((k_here; (with_reducible rename Fr _ _ _ _ => F9q9); k_dflt (refine' comp_plainT F9q9 ?hhq9 ?hclq9 ?hceq9 ?hkiq9 ?hnaq9 ?hsq9 ?_; (case hhq9 => exact rfl); (case hclq9 => exact rfl); (case hkiq9 => exact rfl); (case hceq9 => decide); (case hnaq9 => decide); (case hsq9 => (intro _; with_unfolding_all rfl))))) <;> walk_at "hide9a")
  exact True.intro
section
set_option maxHeartbeats 4000000
open PyProof.Rows.LCg
theorem filled_l (w : World) (x : Str) (v : Value) (news : Led) (d : Addr) (o : Obj) (kvs : List (Str × Value)) (σ : Str → Option Str) (R : Rel news v (.l x)) (hx : Short x) (hdm : (d, o) ∈ news) (hD : o.IsDictOf (PySem.strKind PySem.Challenge.rw_rg0118_01.row.prog w) kvs) (hT : TabOk w news kvs σ) (hlo : (d == sysModules) = false) :
    Fn w 195 4 [v, .ref d] news (fun news' r => Ex1 fun tl => And3 (news' = tl ++ news) (Rel (tl ++ news) r (Tm.fill σ (.l x))) (∀ p ∈ tl, ∀ q ∈ news, q.1 < p.1)) := by
  have hsh : Tm.short (.l x) := fun y hy => by simp [Tm.ends] at hy; rw [hy]; exact hx
  have hR := R
  cases R with
  | l h1 =>
    (w_top off; unfold Fn; intro loose mean mg mb dp un gd cn cs a9 ccd cl outer A₀ base h₀ L m s Q E B F X N T hk hdp hun hret; (have kf : KF (rgTop.heap_1 w.params) PySem.Challenge.rw_rg0118_01 := (by k_fill; trivial)); clear kf; refine wpAny_call ?_; k_dflt (refine' code_defC ?k1 ?k2 ?k3 ?k4 ?k5 ?kA ?kF ?kK ?k6 ?k7 ?k8 ?k9 ?kB ?kD ?_ ?c2 ?c3 ?c4; (case kA => exact rfl); (case kF => exact rfl); (case kK => assumption); (case k1 => k_asm); (case k2 => k_asm); (case k3 => k_asm); (case k4 => k_asm); (case k5 => k_asm); (case k6 => k_is); (case k7 => k_is); (case k8 => ktr_room); (case k9 => exact BindsTo.of_eq rfl); (case kB => exact rfl); (case kD => decide +kernel); (case c2 => exact rfl); (case c3 => exact rfl); (case c4 => exact rfl); k_whole; intro g' L' h' tk' cells' FG' F' N' Y' B' X' T' l1; (have l1b := tbn_up (ltN (Nat.lt_succ_self L')) (allLt_of l1)); (try simp only [AllLt, and_true] at l1b); (try k_lt l1); k_cells Y'; (try simp only [List.cons_append, List.nil_append] at N'); (try dsimp only); (try k_fold)))
    ((try k_fold); k_steps)
    · have hv : Mine.isVar x = true := by assumption
      obtain ⟨z1, z2⟩ := hT x
      cases hs : σ x with
      | none =>
        rw [z1 hs]
        refine hret _ news _ _ _ (by assumption) (News_sub (by assumption) (by (k_extra "sub9"))) ⟨[], rfl, ?_, fun _ h => nomatch h⟩
        show Rel news _ (.l (fillS σ x))
        rw [show fillS σ x = x from by simp [fillS, hs]]
        exact hR
      | some y =>
        obtain ⟨a', t', e', hm'⟩ := z2 y hs
        rw [e']
        refine hret _ news _ _ _ (by assumption) (News_sub (by assumption) (by (k_extra "sub9"))) ⟨[], rfl, ?_, fun _ h => nomatch h⟩
        show Rel news _ (.l (fillS σ x))
        rw [show fillS σ x = y from by simp [fillS, hs, hv]]
        exact .l hm'
    · refine ⟨_, [], _, fun _ ys nw => nw = _ ∧ ys = [], rfl, by assumption, by assumption, by k_mem, Nat.zero_le _, ⟨rfl, rfl⟩, fun j ys nw h => by rw [h.2]; exact Nat.zero_le _, fun j v1 ys nw oI I C D hh tk dr mC E' hj => by simp at hj, ?_⟩
      rintro Dc ys nw hc tkc drc Fc Nc offc ltc hsub ⟨rfl, rfl⟩
      (try k_lt ltc)
      ((try k_fold); k_steps)
      have hv : Mine.isVar x = false := by assumption
      rename_i D1 _ lD1 D2 _ lD2 D3 _ _ _ lD3 kFX kNX _ _
      refine hret _ ([(D1, tupO [.str x _])] ++ news) _ _ _ kFX (News_sub kNX (by (k_extra "sub9"))) ⟨_, rfl, ?_, ?_⟩
      · show Rel _ _ (.l (fillS σ x))
        rw [show fillS σ x = x from by simp [fillS, hv]]
        exact .l (.head _)
      · intro p hp q hq
        rw [List.mem_singleton.mp hp]
        exact lD1.2.mem q hq

end

section
set_option maxHeartbeats 4000000
theorem Rel.leaf {n : Led} {v : Value} {x : Str} (h : Rel n v (.l x)) : Ex2 fun a t => And2 (v = .ref a) ((a, tupO [.str x t]) ∈ n) := by
  cases h with | l h1 => exact ⟨_, _, rfl, h1⟩
theorem Rel.fleaf {n : Led} {v : Value} {x : Str} (h : Rel n v (.f x)) : Ex4 fun a b t u => And3 (v = .ref a) ((a, tupO [.str (Str.ofString "f") u, .ref b]) ∈ n) ((b, tupO [.str x t]) ∈ n) := by
  cases h with | f h1 h2 => exact ⟨_, _, _, _, rfl, h1, h2⟩
theorem Rel.mk {n : Led} {D : Addr} {t : Tok} {ys : List Value} {T : Tm} (hD : (D, tupO (.str T.op t :: ys)) ∈ n) (hk : Paired (Rel n) ys T.kids) : Rel n (.ref D) T := by
  cases T with
  | l x => obtain rfl := Paired.none hk; exact .l hD
  | f x =>
    obtain ⟨_, rfl, h1⟩ := Paired.one (b := Tm.l x) hk
    obtain ⟨a, t, rfl, h⟩ := h1.leaf; exact .f hD h
  | gll x y =>
    obtain ⟨_, _, rfl, h1, h2⟩ := Paired.two (b := Tm.l x) (c := Tm.l y) hk
    obtain ⟨a, t, rfl, h⟩ := h1.leaf; obtain ⟨b, u, rfl, h'⟩ := h2.leaf; exact .gll hD h h'
  | gfl x y =>
    obtain ⟨_, _, rfl, h1, h2⟩ := Paired.two (b := Tm.f x) (c := Tm.l y) hk
    obtain ⟨a, b, t, u, rfl, h, h'⟩ := h1.fleaf; obtain ⟨c, v, rfl, h''⟩ := h2.leaf; exact .gfl hD h h' h''
  | gff x y =>
    obtain ⟨_, _, rfl, h1, h2⟩ := Paired.two (b := Tm.f x) (c := Tm.f y) hk
    obtain ⟨a, b, t, u, rfl, h, h'⟩ := h1.fleaf; obtain ⟨c, d, v, z, rfl, k2, k3⟩ := h2.fleaf; exact .gff hD h h' k2 k3
theorem Tm.fill_kids (σ : Str → Option Str) (T : Tm) : (T.fill σ).kids = T.kids.map (Tm.fill σ) := by cases T <;> rfl
theorem Tm.fill_op (σ : Str → Option Str) (T : Tm) (h : T.kids ≠ []) : (T.fill σ).op = T.op := by cases T <;> first | rfl | exact absurd rfl h
theorem TabOk.mono {w : World} {n n' : Led} {kvs : List (Str × Value)} {σ : Str → Option Str} (h : TabOk w n kvs σ) (k : ∀ p ∈ n, p ∈ n') : TabOk w n' kvs σ :=
  fun x => ⟨(h x).1, fun y hy => let ⟨a, t, e, hm⟩ := (h x).2 y hy; ⟨a, t, e, k _ hm⟩⟩
theorem Tm.short.kids {T U : Tm} (h : T.short) (hU : U ∈ T.kids) : U.short := by
  intro x hx
  apply h
  cases T <;> simp [Tm.kids] at hU <;> (rcases hU with rfl | rfl | rfl | rfl | rfl) <;> simp [Tm.ends] at hx ⊢ <;> first | exact hx | exact .inl hx | exact .inr hx

noncomputable def FillC (w : World) (d : Addr) (σ : Str → Option Str) (n₀ : Led) (U : Tm) (v : Value) : Prop := ∀ news' : Led, (∀ p ∈ n₀, p ∈ news') → Fn w 195 (4 * U.sz + 4) [v, .ref d] news' (fun news'' r => Ex1 fun tl => And3 (news'' = tl ++ news') (Rel (tl ++ news') r (Tm.fill σ U)) (∀ p ∈ tl, ∀ q ∈ news', q.1 < p.1))
theorem FillC.at {w : World} {d : Addr} {σ : Str → Option Str} {n₀ : Led} {U : Tm} {v : Value} (C : FillC w d σ n₀ U v) (news' : Led) (k : ∀ p ∈ n₀, p ∈ news') : Fn w 195 (4 * U.sz + 4) [v, .ref d] news' (fun news'' r => Ex1 fun tl => And3 (news'' = tl ++ news') (Rel (tl ++ news') r (Tm.fill σ U)) (∀ p ∈ tl, ∀ q ∈ news', q.1 < p.1)) := C news' k
theorem ln_MY_20 : True := by
  k_with "call ref" => (k_here; (with_reducible show wpAny _ _ (call (Value.ref 195) [_, _]) _ _ _); k_dflt (refine' Fn.useK ?kCq9 ?kBq9 ?kFq9 ?kXq9 ?kNq9 ?kTq9 ?kkq9 ?kdq9 ?kuq9 ?_; (case kBq9 => k_asm); (case kFq9 => k_asm); (case kXq9 => k_asm); (case kNq9 => k_asm); (case kTq9 => k_asm); (case kkq9 => first | exact rfl | assumption); (case kCq9 => exact (FillC.at ‹FillC _ _ _ _ _ _› _ (by first | assumption | (k_extra "sub9")))); (case kdq9 => ktr_room); (case kuq9 => ktr_units)); (intro KQ9q9 hKQ9q9 _ _ _ _ _ _ _ P9q9); (obtain ⟨_, e1q9, _, _⟩ := P9q9); (replace e1q9 := Eq.symm e1q9); (subst e1q9); (try subst e2q9); (refine hKQ9q9 _ _ _ _ ?_); (clear hKQ9q9 KQ9q9); (try dsimp only))
  exact True.intro

theorem filled_spec (w : World) (d : Addr) (o : Obj) (kvs : List (Str × Value)) (σ : Str → Option Str) (hD : o.IsDictOf (PySem.strKind PySem.Challenge.rw_rg0118_01.row.prog w) kvs) (hlo : (d == sysModules) = false) :
    ∀ (T : Tm) (v : Value) (news : Led), Rel news v T → T.short → (d, o) ∈ news → TabOk w news kvs σ → Fn w 195 (4 * T.sz + 4) [v, .ref d] news (fun news'' r => Ex1 fun tl => And3 (news'' = tl ++ news) (Rel (tl ++ news) r (Tm.fill σ T)) (∀ p ∈ tl, ∀ q ∈ news, q.1 < p.1)) := by
  have main : ∀ (tm : Tm), (∀ T', T'.sz < tm.sz → ∀ (v : Value) (news : Led), Rel news v T' → T'.short → (d, o) ∈ news → TabOk w news kvs σ → FillC w d σ news T' v) → ∀ (v : Value) (news : Led), Rel news v tm → tm.short → (d, o) ∈ news → TabOk w news kvs σ → FillC w d σ news tm v := by
    intro tm IH v news0 hR0 hs hdm0 hT0 news k0
    have hR := hR0.mono k0
    have hdm := k0 _ hdm0
    have hT := hT0.mono k0
    by_cases hk0 : tm.kids = []
    · cases tm with
      | l x => exact filled_l w x v news d o kvs σ hR (hs x (by simp [Tm.ends])) hdm hD hT hlo
      | _ => exact absurd hk0 (by simp [Tm.kids])
    have hnv : tm.isVar = false := by cases tm <;> first | rfl | exact absurd rfl hk0
    have hRk := hR
    obtain ⟨a, t, kws, rfl, ha, hks, hkl⟩ := hRk.open
    have hkl2 : kws.length < 1000 := by omega
    have hsz := tm.sz_le
    (w_top off; unfold Fn; intro loose mean mg mb dp un gd cn cs a9 ccd cl outer A₀ base h₀ L m s Q E B F X N T hk hdp hun hret; (have kf : KF (rgTop.heap_1 w.params) PySem.Challenge.rw_rg0118_01 := (by k_fill; trivial)); clear kf; refine wpAny_call ?_; k_dflt (refine' code_defC ?k1 ?k2 ?k3 ?k4 ?k5 ?kA ?kF ?kK ?k6 ?k7 ?k8 ?k9 ?kB ?kD ?_ ?c2 ?c3 ?c4; (case kA => exact rfl); (case kF => exact rfl); (case kK => assumption); (case k1 => k_asm); (case k2 => k_asm); (case k3 => k_asm); (case k4 => k_asm); (case k5 => k_asm); (case k6 => k_is); (case k7 => k_is); (case k8 => ktr_room); (case k9 => exact BindsTo.of_eq rfl); (case kB => exact rfl); (case kD => decide +kernel); (case c2 => exact rfl); (case c3 => exact rfl); (case c4 => exact rfl); k_whole; intro g' L' h' tk' cells' FG' F' N' Y' B' X' T' l1; (have l1b := tbn_up (ltN (Nat.lt_succ_self L')) (allLt_of l1)); (try simp only [AllLt, and_true] at l1b); (try k_lt l1); k_cells Y'; (try simp only [List.cons_append, List.nil_append] at N'); (try dsimp only); (try k_fold)))
    ((try k_fold); k_steps)
    rename_i o2 dk2 _ _ _ _ h9 tk9 dr9 _ _ D1 hh1 lD1 D2 hh2 F2 N2 lD2
    generalize hB : (D2, tupO kws) :: (D1, { cls := Value.type "tuple", data := Data.seq #[Value.str tm.op t] }) :: (L' + 1, o2) :: news = BASE at *
    have hnB : ∀ p ∈ news, p ∈ BASE := by rw [← hB]; (k_extra "sub9")
    refine ⟨D2, kws, BASE, fun j ys nw => Ex1 fun tl2 => And4 (nw = tl2 ++ BASE) (Paired (Rel nw) ys ((tm.kids.map (Tm.fill σ)).take j)) (ys.length = j) (∀ p ∈ tl2, ∀ q ∈ BASE, q.1 < p.1), rfl, F2, N2, hB ▸ List.mem_cons_self, Nat.le_of_lt hkl2, ⟨[], rfl, .nil, rfl, fun _ h => nomatch h⟩, ?zb, ?zt, ?ze⟩
    case zb => rintro j ys nw ⟨tl2, _, _, h, _⟩; omega
    case zt =>
      rintro j v1 ys nw oI I C D' hh' tk' dr' mC E' hj ⟨tl2, rfl, hys, hyl, htl2⟩ hsub V off hit
      obtain ⟨U, hU, hRv, hUs⟩ := Paired.get hks hj
      have hUm : U ∈ tm.kids := List.mem_of_getElem? hU
      have IHv : FillC w d σ news U v1 := IH U hUs v1 news hRv (hs.kids hUm) hdm hT
      refine cv_one V rfl rfl rfl fun h4 tk4 V4 => ?_
      obtain ⟨oC, hn, N4⟩ := V4.led
      have F4 := V4.F
      have hcm : (L' + 1, o2) ∈ tl2 ++ BASE := List.mem_append_right _ ((by rw [← hB]; k_mem))
      have hsubn : ∀ p ∈ news, p ∈ (C, oC) :: (D', LCg.lst ys) :: (I, oI) :: (tl2 ++ BASE) := fun p hp => .tail _ (.tail _ (.tail _ (List.mem_append_right _ ((hnB p hp)))))
      ((try k_fold); k_steps)
      rename_i r9 h9' tk9' dr9' F9' tl3 hR9 hx9 N9'
      have hoI : oI.cls = .type "tuple_iterator" := by
        obtain ⟨o', e', hc', _⟩ := hit
        have := (V.N _ (.head _)).1
        rw [this] at e'; cases e'; exact hc'
      have off4C : ∀ p ∈ (I, oI) :: (tl2 ++ BASE), p.1 ≠ C := V4.offC
      have off4D : ∀ p ∈ (I, oI) :: (tl2 ++ BASE), p.1 ≠ D' := V4.offD
      have gt3 : ∀ p ∈ tl3, C < p.1 ∧ D' < p.1 ∧ I < p.1 ∧ ∀ q ∈ tl2 ++ BASE, q.1 < p.1 := fun p hp => ⟨hx9 p hp _ (.head _), hx9 p hp _ (.tail _ (.head _)), hx9 p hp _ (.tail _ (.tail _ (.head _))), fun q hq => hx9 p hp q (.tail _ (.tail _ (.tail _ hq)))⟩
      refine ⟨tl3 ++ (tl2 ++ BASE), _, _, _, _, rfl, V4.back hn F9' N9' (by k_mem) (by k_mem) ?qs ?qa ?qb, fun p hp => List.mem_append_right _ hp, ?qc, tl3 ++ tl2, by rw [List.append_assoc], ?qd, by rw [List.length_append, hyl]; rfl, ?qe⟩
      case qs => (k_extra "sub9")
      case qa => exact fcons (off4C _ (.head _)) (fapp (fun p hp => Nat.ne_of_gt (gt3 p hp).1) (fun p hp => off4C p (.tail _ hp)))
      case qb => exact fcons (off4D _ (.head _)) (fapp (fun p hp => Nat.ne_of_gt (gt3 p hp).2.1) (fun p hp => off4D p (.tail _ hp)))
      case qc => exact fapp (fun p hp => Nat.ne_of_gt (gt3 p hp).2.2.1) off
      case qd =>
        have hU2 : (tm.kids.map (Tm.fill σ))[j]? = some (Tm.fill σ U) := by rw [List.getElem?_map, hU]; rfl
        rw [List.take_add_one, hU2]
        refine Paired.append (Paired.imp (fun _ _ x => x.mono fun p hp => List.mem_append_right _ hp) hys) (.cons (hR9.monoT fun a vs h => ?_) .nil)
        rcases List.mem_append.mp h with h | h
        · exact List.mem_append_left _ h
        · simp only [List.mem_cons, Prod.mk.injEq] at h
          rcases h with ⟨_, h⟩ | ⟨_, h⟩ | ⟨_, h⟩ | h
          · exact absurd h (by obtain ⟨es, ep, hd, _⟩ := hn; intro e; rw [← e] at hd; cases hd)
          · exact absurd h (by simp [LCg.lst])
          · exact absurd (congrArg Obj.cls h) (by rw [hoI]; simp)
          · exact List.mem_append_right _ h
      case qe =>
        exact fapp (fun p hp q hq => (gt3 p hp).2.2.2 q (List.mem_append_right _ hq)) htl2
    case ze =>
      rintro Dc ys nw hc tkc drc Fc Nc offc ltc hsub ⟨tl2, rfl, hys, hyl, htl2⟩
      have hkl3 : kws.length = tm.kids.length := Paired.length hks
      rw [List.take_of_length_le (by rw [List.length_map, hkl3]; exact Nat.le_refl _)] at hys
      have hk1 : tm.kids.length ≠ 0 := fun e => hk0 (List.length_eq_zero_iff.mp e)
      obtain ⟨y, ws, rfl⟩ : ∃ y ws, ys = y :: ws := by
        cases ys with
        | nil => simp at hyl; omega
        | cons y ws => exact ⟨y, ws, rfl⟩
      have hws : ws.length ≤ 1000 := by simp at hyl; omega
      have hmD1 : (D1, tupO [.str tm.op t]) ∈ BASE := by rw [← hB]; k_mem
      ((try k_fold); k_steps)
      rename_i _ _ _ _ _ Dn hh5 F5 N5 lDn kF5 kN5 _ _
      have hin : ∀ p ∈ tl2 ++ BASE, p ∈ ((Dn, tupO ([Value.str tm.op t] ++ y :: ws)) :: (tl2 ++ [(D2, tupO kws), (D1, { cls := Value.type "tuple", data := Data.seq #[Value.str tm.op t] }), (L' + 1, o2)])) ++ news := by rw [← hB]; (k_extra "sub9")
      refine hret _ (((Dn, tupO ([Value.str tm.op t] ++ y :: ws)) :: (tl2 ++ [(D2, tupO kws), (D1, { cls := Value.type "tuple", data := Data.seq #[Value.str tm.op t] }), (L' + 1, o2)])) ++ news) _ _ _ kF5 (News_sub kN5 (by rw [← hB]; (k_extra "sub9"))) ⟨_, rfl, ?_, ?_⟩
      · refine Rel.mk (t := t) (ys := y :: ws) (by rw [Tm.fill_op σ tm hk0]; exact .head _) ?_
        rw [Tm.fill_kids]
        exact Paired.imp (fun _ _ x => x.mono hin) hys
      · have hl1b := l1b.mem
        refine fcons (fun q hq => lDn.2.2.mem q (List.mem_append_right _ ((hnB q hq)))) (fapp (fun p hp q hq => htl2 p hp q (hnB q hq)) ?_)
        refine fcons lD2.2.2.mem (fcons lD1.2.mem (fcons hl1b (fun _ h => nomatch h)))
  intro T
  have all : ∀ n, ∀ T : Tm, T.sz < n → ∀ (v : Value) (news : Led), Rel news v T → T.short → (d, o) ∈ news → TabOk w news kvs σ → FillC w d σ news T v := by
    intro n
    induction n with
    | zero => intro T h; exact absurd h (Nat.not_lt_zero _)
    | succ n ih => exact fun T h => main T fun T' h' => ih T' (by omega)
  exact fun v news hR hs hm hT => all _ T (Nat.lt_succ_self _) v news hR hs hm hT news fun p hp => hp

end

section
set_option maxHeartbeats 4000000
open PyProof.Rows.LCg
section
variable {prog : Program} {w : World} {A : Around} {E : Value → Shared → Prop} {h₀ : Heap} {L : Addr} {m : Str → Option Value} {env : Env} {s : Shared}

theorem start_one {R : Result → Shared → Prop} {elt : PySem.Expr} {g1 g2 : Comprehension} {scope : Scope} {pos : Pos} {it acc : Value} (hg : g2.is_async = 0)
    (h0 : codeAny (model prog w) A (.compLoop (.ListComp elt [g1, g2] scope pos) 1 it acc env) R s)
    (h : wpAny (model prog w) A (pyIter it) (fun it' s' => codeAny (model prog w) A (.compLoop (.ListComp elt [g1, g2] scope pos) 1 it' acc env) R s')
      (notedBy (model prog w) A env fun x s' => R (.error x) s') s) :
    codeAny (model prog w) A (.compStart (.ListComp elt [g1, g2] scope pos) 1 it acc env) R s := by
  obtain ⟨t2, i2, f2, a2⟩ := g2
  simp only at hg
  subst hg
  refine codeAny_of_tree ?_
  show wpAny _ _ ((compStart (.ListComp elt [g1, ⟨t2, i2, f2, 0⟩] scope pos) 1 it acc env).onRaise (fun x => do noteFrame x env; standAt theWindowsPlace)) _ _ s
  refine wpAny_notedAt ?_
  unfold compStart
  show wpAny _ _ (ask >>= _) _ _ s
  refine wpAny_bind (wpAny_askSetting (wpAny_ite ?_))
  split
  · first
      | exact wpAny_bind (wpAny_pure (wpAny_pure (And.intro rfl h0)))
      | exact wpAny_pure (And.intro rfl h0)
  · first
      | exact wpAny_bind (wpAny_rule (wpAny_bind (wpAny_standAt (wpAny_bind (wpAny_mono h (fun it' s' h' => wpAny_pure (And.intro rfl h')) fun _ _ x => x)))))
      | (refine wpAny_bind (wpAny_rule ?_); show wpAny _ _ (standAt i2.pos >>= _) _ _ s; exact wpAny_bind (wpAny_standAt (wpAny_bind (wpAny_mono h (fun it' s' h' => wpAny_pure (And.intro rfl h')) fun _ _ x => x))))

noncomputable def CvIn (prog : Program) (w : World) (A : Around) (h₀ : Heap) (L : Addr) (m : Str → Option Value) (C D I : Addr) (oI : Obj) (tg2 elt : PySem.Expr) (cenv : Env) (ys : List Value) (nw : Led) (J : List Value → Led → Prop) (s : Shared) (xv : Value) (s' : Shared) : Prop :=
  Ex6 fun ax its n nw2 mC (J2 : Nat → List Value → Led → Prop) => And10 (xv = .ref ax) (Ex3 fun h' tk' dr' => s' = { s with heap := h', toks := tk', drawn := dr' }) (CV h₀ L m C D mC ys ((I, oI) :: nw2) s'.heap) (∀ p ∈ nw, p ∈ nw2) (∀ p ∈ nw2, p.1 ≠ I) ((ax, W.listOf its n) ∈ nw2) (J2 0 ys ((I, oI) :: nw2)) (∀ j ys' nwF, J2 j ys' nwF → ys'.length ≤ 1000) (∀ j v ys' nwF oI2 I2 h tk dr mC (E' : Value → Shared → Prop), its[j]? = some v → J2 j ys' nwF → (∀ p ∈ (I, oI) :: nw2, p ∈ nwF) → CV h₀ L m C D mC ys' ((I2, oI2) :: nwF) h → (∀ p ∈ nwF, p.1 ≠ I2) → h.IsListIter I2 ax (j + 1) →
      wpAny (model prog w) A (letOwnedTupleGo tg2 (.ref I2) v) (fun _ s₂ => wpAny (model prog w) A (assign tg2 cenv v) (fun _ s₃ => wpAny (model prog w) A (eval elt cenv) (CvElt h₀ L m C D I2 oI2 ys' nwF (J2 (j + 1)) s) E' s₃) E' s₂) E' { s with heap := h, toks := tk, drawn := dr }) (∀ ys' nwF, J2 its.size ys' nwF → Ex1 fun nw' => And4 (∀ p ∈ (I, oI) :: nw', p ∈ nwF) (∀ p ∈ nw, p ∈ nw') (∀ p ∈ nw', p.1 ≠ I) (J ys' nw'))

theorem comp_two (_ : Fr h₀ L s.heap m) {elt tg1 it1 tg2 it2 : PySem.Expr} {scope : Scope} {pos : Pos} {cl : List (Str × Addr)} {Q : Value → Shared → Prop}
    (hh : A.handled = none) (hclos : closureFor scope env = pure cl) (hcell : ∀ y ∈ scope.names, y.2 ≠ .cell) (hkind : scope.kind = .function) (hnames : ∀ y ∈ scope.names, y.2 = .local → scope.names.lookup y.1 = some .local)
    (hs : ∀ x, foldedSetIterable it1 env x = pure x) (hs2 : ∀ C x, foldedSetIterable it2 (compEnvC scope cl C env) x = pure x)
    (h : wpAny (model prog w) A (eval it1 env) (fun xv s₁ => Hold (Ex4 fun ax vs l (J : Nat → List Value → Led → Prop) => And7 (xv = .ref ax) (Fr h₀ L s₁.heap m) (News h₀ L s₁.heap l) ((ax, tupO vs) ∈ l) (J 0 [] l) (∀ i v ys nw oI I C D h tk dr mC (E' : Value → Shared → Prop), vs[i]? = some v → J i ys nw → (∀ p ∈ l, p ∈ nw) → CV h₀ L m C D mC ys ((I, oI) :: nw) h → (∀ p ∈ nw, p.1 ≠ I) → h.IsTupleIter I ax (i + 1) →
        wpAny (model prog w) A (letOwnedTupleGo tg1 (.ref I) v) (fun _ s₂ => wpAny (model prog w) A (assign tg1 (compEnvC scope cl C env) v) (fun _ s₃ => wpAny (model prog w) A (eval it2 (compEnvC scope cl C env)) (CvIn prog w A h₀ L m C D I oI tg2 elt (compEnvC scope cl C env) ys nw (J (i + 1)) s₁) E' s₃) E' s₂) E' { s₁ with heap := h, toks := tk, drawn := dr }) (∀ D ys nw h tk dr, Fr h₀ L h m → News h₀ L h ((D, lst ys) :: nw) → (∀ p ∈ nw, p.1 ≠ D) → (∀ p ∈ l, p.1 < D) → (∀ p ∈ l, p ∈ nw) → J vs.length ys nw → Q (.ref D) { s₁ with heap := h, toks := tk, drawn := dr }))) E s) :
    wpAny (model prog w) A (eval (.ListComp elt [⟨tg1, it1, [], 0⟩, ⟨tg2, it2, [], 0⟩] scope pos) env) Q E s := by
  refine comp_tup (h₀ := h₀) (L := L) (m := m) (fun I D cenv v => letOwnedTupleGo tg1 (.ref I) v >>= fun _ => assign tg1 cenv v >>= fun _ =>
        eval it2 cenv >>= fun x => standAt it2.pos >>= fun _ => foldedSetIterable it2 cenv x >>= fun x => holding [x] (pyIter x) >>= fun i2 => runOwn (.compStart (.ListComp elt [⟨tg1, it1, [], 0⟩, ⟨tg2, it2, [], 0⟩] scope pos) 1 i2 (.ref D) cenv) cenv >>= fun _ => again (.compLoop (.ListComp elt [⟨tg1, it1, [], 0⟩, ⟨tg2, it2, [], 0⟩] scope pos) 0 (.ref I) (.ref D) cenv)) hh hclos hcell hkind hnames (fun I D cenv => ?hturn) hs (wpAny_mono h (fun xv s₁ h₁ => ?_) fun _ _ e => e)
  case hturn => rfl
  obtain ⟨ax, vs, l, J, e, F, N, hm, hJ, hb, hQ⟩ := h₁
  refine ⟨ax, vs, l, J, e, F, N, hm, hJ, fun i v ys nw oI I C D h tk dr mC E' hi hJ' hsub V off hit => ?_, hQ⟩
  refine wpAny_bind (wpAny_mono (hb i v ys nw oI I C D h tk dr mC E' hi hJ' hsub V off hit) (fun _ s₂ h₂ => wpAny_bind (wpAny_mono h₂ (fun _ s₃ h₃ => wpAny_bind (wpAny_mono h₃ (fun y s₄ h₄ => ?_) fun _ _ e => e)) fun _ _ e => e)) fun _ _ e => e)
  obtain ⟨ax2, its, n, nw2, mC2, J2, rfl, ⟨h4, tk4, dr4, rfl⟩, V4, hs4, ho4, hm4, hJ4, hlen4, hb4, hend4⟩ := h₄
  refine wpAny_bind (wpAny_standAt (wpAny_bind ?_))
  rw [hs2]
  refine wpAny_pure ?_
  have hax := V4.N _ (List.mem_cons_of_mem _ hm4)
  have hl : Heap.IsList h4 ax2 its := ⟨_, hax.1, rfl, n, rfl⟩
  have hlt : ax2 < h4.objs.size := Heap.lt_size hax.1
  refine wpAny_bind (wpAny_holding (wpAny_pyIter_list (s := { s₁ with heap := h4, toks := tk4, drawn := dr4 }) hl ?_))
  generalize hH : h4.push { cls := .type "list_iterator", data := .fields #[.ref ax2, .int 0 0] } = H
  have up : ∀ b o, h4.get? b = some o → H.get? b = some o := fun b o e => hH ▸ Heap.get?_push_of_some _ e
  have hIt : H.IsListIter h4.objs.size ax2 0 := ⟨_, hH ▸ Heap.get?_push_size _ rfl, rfl, rfl⟩
  have VH : CV h₀ L m C D mC2 ys ((I, oI) :: nw2) H := V4.grow up
  have hoffI : ∀ p ∈ (I, oI) :: nw2, p.1 ≠ h4.objs.size := fun p hp => Nat.ne_of_lt (V4.lt p hp)
  have W := Walks.list (prog := prog) (w := w) hh h4.objs.size ax2 (Nat.ne_of_lt hlt) its
  have loop : codeAny (model prog w) A (.compLoop (.ListComp elt [⟨tg1, it1, [], 0⟩, ⟨tg2, it2, [], 0⟩] scope pos) 1 (.ref h4.objs.size) (.ref D) (compEnvC scope cl C env)) (fun r s' => Ex6 fun ys' nwF h' tk' dr' mC' => And4 (r = .ok .next) (s' = { s₁ with heap := h', toks := tk', drawn := dr' }) (CV h₀ L m C D mC' ys' nwF h') (J2 its.size ys' nwF)) { s₁ with heap := H, toks := tk4, drawn := dr4 } := by
    refine cv_loop (s := { s₁ with heap := H, toks := tk4, drawn := dr4 }) (news := (I, oI) :: nw2) (pos := it2.pos) (body := fun v => letOwnedTupleGo tg2 (.ref h4.objs.size) v >>= fun _ => assign tg2 (compEnvC scope cl C env) v >>= fun _ =>
        (eval elt (compEnvC scope cl C env) >>= fun x => call (.builtin "list.append") [.ref D, x] >>= fun _ => pure ()) >>= fun _ => again (.compLoop (.ListComp elt [⟨tg1, it1, [], 0⟩, ⟨tg2, it2, [], 0⟩] scope pos) 1 (.ref h4.objs.size) (.ref D) (compEnvC scope cl C env))) J2 W (fun i h st => by obtain ⟨o, e, _⟩ := st.1; exact ⟨o, e⟩) (fun i h h' o nw st e e' ks N' => ⟨by obtain ⟨o', q, r⟩ := st.1; rw [e] at q; cases q; exact ⟨o, e', r⟩, ⟨_, (N' _ (ks _ (List.mem_cons_of_mem _ hm4))).1, rfl, n, rfl⟩⟩) rfl rfl rfl rfl ?_ (Nat.ne_of_lt V4.ltC) (Nat.ne_of_lt V4.ltD) (Nat.ne_of_lt V4.ltL) (V4.fresh (Nat.le_refl _)) VH ⟨hIt, hl.at fun o e => up _ o e⟩ hoffI hJ4 (fun ys' nw' h' tk' dr' mC' V' hs' hJ' => ⟨ys', nw', h', tk', dr', mC', rfl, rfl, V', hJ'⟩)
    intro j v2 ys2 nwF oI2 h5 tk5 dr5 mC5 E5 hj hP hJ5 hsub5 V5 hst5 hoff5
    refine wpAny_bind (wpAny_mono (hb4 j v2 ys2 nwF oI2 _ h5 tk5 dr5 mC5 E5 hP hJ5 hsub5 V5 hoff5 hst5.1) (fun _ s₂ h₂ => wpAny_bind (wpAny_mono h₂ (fun _ s₃ h₃ => wpAny_bind (wpAny_bind (wpAny_mono h₃ (fun y s₄ h₄ => ?_) fun _ _ e => e))) fun _ _ e => e)) fun _ _ e => e)
    obtain ⟨nw', h', tk', dr', mC', rfl, V', hs', ho', hJ₂⟩ := h₄
    refine wpAny_bind (cv_append (s := { s₁ with heap := h', toks := tk', drawn := dr' }) V' (by have := hlen4 _ _ _ hJ5; rw [sizeLine_eq]; omega) fun h'' V'' => wpAny_pure (wpAny_pure ⟨rfl, ys2 ++ [y], nw', h'', tk', dr', mC', rfl, V'', hs', ho', hJ₂⟩))
  refine wpAny_bind (wpAny_runOwn (h := none) ?_)
  have mk : ({ A with handled := (none : Option Value).or A.handled } : Around) = A := by cases A; rfl
  show codeAny (model prog w) ({ A with handled := (none : Option Value).or A.handled } : Around) _ _ _
  rw [mk]
  have fin : ∀ R : Result → Shared → Prop, (∀ ys' nwF h' tk' dr' mC', CV h₀ L m C D mC' ys' nwF h' → J2 its.size ys' nwF → R (.ok .next) { s₁ with heap := h', toks := tk', drawn := dr' }) →
      codeAny (model prog w) A (.compLoop (.ListComp elt [⟨tg1, it1, [], 0⟩, ⟨tg2, it2, [], 0⟩] scope pos) 1 (.ref h4.objs.size) (.ref D) (compEnvC scope cl C env)) R { s₁ with heap := H, toks := tk4, drawn := dr4 } := fun R hR => codeAny_mono loop (by
    rintro r s' ⟨ys', nwF, h', tk', dr', mC', rfl, rfl, V', hJ'⟩
    exact hR _ _ _ _ _ _ V' hJ')
  refine start_one rfl (fin _ ?k1) (wpAny_pyIter_listiter (s := { s₁ with heap := H, toks := tk4, drawn := dr4 }) hIt (fin _ ?k2))
  all_goals
    intro ys' nwF h' tk' dr' mC' V' hJ'
    obtain ⟨nw', a1, a2, a3, a4⟩ := hend4 _ _ hJ'
    exact wpAny_pure ⟨rfl, ys', nw', h', tk', dr', mC', rfl, V'.sub a1, a2, a3, a4⟩
end

end

section
set_option maxHeartbeats 4000000
section
variable {prog : Program} {w : World} {A : Around} {E : Value → Shared → Prop} {s : Shared} {h₀ : Heap} {L : Addr} {m : Str → Option Value} {news : Led} {l b : Addr} {vs ws : List Value} {n n2 : Nat}
theorem add_listsL {Q : Value → Shared → Prop} (F : Fr h₀ L s.heap m) (N : News h₀ L s.heap news) (hl : (l, W.listOf vs.toArray n) ∈ news) (hb : (b, W.listOf ws.toArray n2) ∈ news) (hsz : vs.length ≤ 1000) (hsz2 : ws.length ≤ 1000)
    (h : ∀ D h', Fr h₀ L h' m → News h₀ L h' ((D, W.listOf (vs ++ ws).toArray 0) :: news) → (∀ p ∈ news, p.1 < D) → Q (.ref D) { s with heap := h' }) :
    wpAny (model prog w) A (binaryOp .Add (.ref l) (.ref b)) Q E s :=
  add_lists F N ⟨_, (N _ hl).1, rfl, n, rfl⟩ ⟨_, (N _ hb).1, rfl, n2, rfl⟩ (fun h' F' N' => h _ h' F' N' fun p hp => Heap.lt_size (N p hp).1) (by rw [sizeLine_eq]; omega)
end

end
theorem ln_NA_21 : True := by
  k_with "binaryOp Add ref ref" => (((k_here; k_dflt (first | (refine' add_nil ?Fq9 ?Nq9 ?tq9 ?bq9 ?zq9 ?_; (case Fq9 => k_asm); (case Nq9 => k_asm); (case tq9 => k_mem); (case bq9 => k_mem); (case zq9 => exact Nat.le_of_ble_eq_true rfl)) | (refine' add_new ?Fq9 ?Nq9 ?tq9 ?bq9 ?zq9 ?z2q9 ?_; (case Fq9 => k_asm); (case Nq9 => k_asm); (case tq9 => k_mem); (case bq9 => k_mem); (case zq9 => exact Nat.le_of_ble_eq_true rfl); (case z2q9 => first | assumption | exact Nat.le_of_ble_eq_true rfl); (intro _ _ _ _ l1q9); (try k_lt l1q9)) | (refine' add_listsL ?Fq9 ?Nq9 ?tq9 ?bq9 ?zq9 ?z2q9 ?_; (case Fq9 => k_asm); (case Nq9 => k_asm); (case tq9 => k_mem); (case bq9 => k_mem); (case zq9 => first | assumption | exact Nat.le_of_ble_eq_true rfl); (case z2q9 => first | assumption | exact Nat.le_of_ble_eq_true rfl); (intro _ _ _ _ l1q9); (try k_lt l1q9))))) <;> walk_at "hide9a")
  k_with "eval ListComp Name cons" => (((k_here; (with_reducible rename Fr _ _ _ _ => F9q9); k_dflt (refine' comp_two F9q9 ?hhq9 ?hclq9 ?hceq9 ?hkiq9 ?hnaq9 ?hsq9 ?hs2q9 ?_; (case hhq9 => exact rfl); (case hclq9 => exact rfl); (case hkiq9 => exact rfl); (case hceq9 => decide); (case hnaq9 => decide); (case hsq9 => (intro _; with_unfolding_all rfl)); (case hs2q9 => (intro _ _; with_unfolding_all rfl))))) <;> walk_at "hide9a")
  exact True.intro
section
set_option maxHeartbeats 4000000

noncomputable def LPost (news : Led) (T : Tm) (news' : Led) (r : Value) : Prop :=
  Ex4 fun tl l its n => And6 (news' = (l, W.listOf its n) :: (tl ++ news)) (r = .ref l) (Paired (Rel (tl ++ news)) its.toList T.subs) (∀ p ∈ tl, ∀ q ∈ news, q.1 < p.1) (∀ q ∈ news, q.1 < l) (∀ p ∈ tl, p.1 ≠ l)
noncomputable def LPartsC (w : World) (n₀ : Led) (U : Tm) (v : Value) : Prop := ∀ news' : Led, (∀ p ∈ n₀, p ∈ news') → Fn w 455 (4 * U.sz + 4) [v] news' (LPost news' U)
theorem LPartsC.at {w : World} {n₀ : Led} {U : Tm} {v : Value} (C : LPartsC w n₀ U v) (news' : Led) (k : ∀ p ∈ n₀, p ∈ news') : Fn w 455 (4 * U.sz + 4) [v] news' (LPost news' U) := C news' k
theorem ln_NA_22 : True := by
  k_with "call ref" => (k_here; (with_reducible show wpAny _ _ (call (Value.ref 455) [_]) _ _ _); k_dflt (refine' Fn.useK ?kCq9 ?kBq9 ?kFq9 ?kXq9 ?kNq9 ?kTq9 ?kkq9 ?kdq9 ?kuq9 ?_; (case kBq9 => k_asm); (case kFq9 => k_asm); (case kXq9 => k_asm); (case kNq9 => k_asm); (case kTq9 => k_asm); (case kkq9 => first | exact rfl | assumption); (case kCq9 => exact (LPartsC.at ‹LPartsC _ _ _ _› _ (by first | assumption | (k_extra "sub9")))); (case kdq9 => ktr_room); (case kuq9 => ktr_units)); (intro KQ9q9 hKQ9q9 _ _ _ _ _ _ _ P9q9); (obtain ⟨_, _, _, _, e1q9, e2q9, _, _, _, _⟩ := P9q9); (replace e1q9 := Eq.symm e1q9); (subst e1q9); (try subst e2q9); (refine hKQ9q9 _ _ _ _ ?_); (clear hKQ9q9 KQ9q9); (try dsimp only))
  exact True.intro

theorem lparts_spec (w : World) : ∀ (T : Tm) (v : Value) (news : Led), Rel news v T → Fn w 455 (4 * T.sz + 4) [v] news (LPost news T) := by
  have main : ∀ (tm : Tm), (∀ T', T'.sz < tm.sz → ∀ (v : Value) (news : Led), Rel news v T' → LPartsC w news T' v) → ∀ (v : Value) (news : Led), Rel news v tm → LPartsC w news tm v := by
    intro tm IH v news0 hR0 news k0
    have hR := hR0.mono k0
    have hRk := hR
    obtain ⟨a, t, kws, rfl, ha, hks, hkl⟩ := hRk.open
    have hkl2 : kws.length < 1000 := by omega
    have hsz := tm.sz_le
    (w_top off; unfold Fn; intro loose mean mg mb dp un gd cn cs a9 ccd cl outer A₀ base h₀ L m s Q E B F X N T hk hdp hun hret; (have kf : KF (rgTop.heap_1 w.params) PySem.Challenge.rw_rg0118_01 := (by k_fill; trivial)); clear kf; refine wpAny_call ?_; k_dflt ktr_enter)
    ((try k_fold); k_steps)
    rename_i lq hh0 lq1 D2 hh2 F2 N2 lD2
    replace lq1 := allLt_of lq1
    generalize hB : (D2, tupO kws) :: (lq, W.listOf #[Value.ref a] 0) :: news = BASE at *
    have hnB : ∀ p ∈ news, p ∈ BASE := by rw [← hB]; (k_extra "sub9")
    have hRB : ∀ p ∈ news, p ∈ BASE := hnB
    refine ⟨D2, kws, BASE, fun j ys nw => Ex1 fun tl2 => And4 (nw = tl2 ++ BASE) (Paired (Rel nw) ys ((tm.kids.take j).flatMap Tm.subs)) (j ≤ 2) (∀ p ∈ tl2, ∀ q ∈ BASE, q.1 < p.1), rfl, F2, N2, hB ▸ List.mem_cons_self, ⟨[], rfl, .nil, Nat.zero_le _, fun _ h => nomatch h⟩, ?zt, ?ze⟩
    case zt =>
      rintro j v1 ys nw oI I C D' hh' tk' dr' mC E' hj ⟨tl2, rfl, hys, hyl, htl2⟩ hsub V off hit
      obtain ⟨U, hU, hRv, hUs⟩ := Paired.get hks hj
      have IHv : LPartsC w news U v1 := IH U hUs v1 news hRv
      refine cv_one V rfl rfl rfl fun h4 tk4 V4 => ?_
      obtain ⟨oC, hn, N4⟩ := V4.led
      have F4 := V4.F
      have hsubn : ∀ p ∈ news, p ∈ (C, oC) :: (D', LCg.lst ys) :: (I, oI) :: (tl2 ++ BASE) := fun p hp => .tail _ (.tail _ (.tail _ (List.mem_append_right _ ((hnB p hp)))))
      ((try k_fold); k_steps)
      rename_i h9' tk9' dr9' F9' tl3 l3 its3 n3 hP3 hx3 hy3 hz3 N9'
      have hoI : oI.cls = .type "tuple_iterator" := by
        obtain ⟨o', e', hc', _⟩ := hit
        have := (V.N _ (.head _)).1
        rw [this] at e'; cases e'; exact hc'
      have off4C : ∀ p ∈ (I, oI) :: (tl2 ++ BASE), p.1 ≠ C := V4.offC
      have off4D : ∀ p ∈ (I, oI) :: (tl2 ++ BASE), p.1 ≠ D' := V4.offD
      have gt3 : ∀ p ∈ tl3, C < p.1 ∧ D' < p.1 ∧ I < p.1 ∧ ∀ q ∈ tl2 ++ BASE, q.1 < p.1 := fun p hp => ⟨hx3 p hp _ (.head _), hx3 p hp _ (.tail _ (.head _)), hx3 p hp _ (.tail _ (.tail _ (.head _))), fun q hq => hx3 p hp q (.tail _ (.tail _ (.tail _ hq)))⟩
      have gtl : C < l3 ∧ D' < l3 ∧ I < l3 ∧ ∀ q ∈ tl2 ++ BASE, q.1 < l3 := ⟨hy3 _ (.head _), hy3 _ (.tail _ (.head _)), hy3 _ (.tail _ (.tail _ (.head _))), fun q hq => hy3 q (.tail _ (.tail _ (.tail _ hq)))⟩
      have hlys : ys.length ≤ 10 := by
        rw [Paired.length hys]
        have : ∀ (Ts : List Tm), (Ts.flatMap Tm.subs).length ≤ 5 * Ts.length := by
          intro Ts
          induction Ts with
          | nil => exact Nat.le_refl _
          | cons T r ih =>
            have h5 : T.subs.length ≤ 5 := by cases T <;> exact Nat.le_of_ble_eq_true rfl
            rw [List.flatMap_cons, List.length_append, List.length_cons]; omega
        refine Nat.le_trans (this _) ?_
        rw [List.length_take]; omega
      have hl3 : its3.toList.length ≤ 5 := by
        rw [Paired.length hP3]
        cases U <;> exact Nat.le_of_ble_eq_true rfl
      refine ⟨l3, its3, n3, (l3, W.listOf its3 n3) :: (tl3 ++ (tl2 ++ BASE)), _, fun j' ys' nwF => nwF = (I, oI) :: (l3, W.listOf its3 n3) :: (tl3 ++ (tl2 ++ BASE)) ∧ ys' = ys ++ its3.toList.take j', rfl, ⟨_, _, _, rfl⟩, V4.back hn F9' N9' (by k_mem) (by k_mem) (by (k_extra "sub9")) ?qa ?qb, fun p hp => .tail _ (List.mem_append_right _ hp), ?qc, .head _, ⟨rfl, by simp⟩, ?ql, ?qt, ?qe⟩
      case qa => exact fcons (off4C _ (.head _)) (fcons (Nat.ne_of_gt gtl.1) (fapp (fun p hp => Nat.ne_of_gt (gt3 p hp).1) (fun p hp => off4C p (.tail _ hp))))
      case qb => exact fcons (off4D _ (.head _)) (fcons (Nat.ne_of_gt gtl.2.1) (fapp (fun p hp => Nat.ne_of_gt (gt3 p hp).2.1) (fun p hp => off4D p (.tail _ hp))))
      case qc => exact fcons (Nat.ne_of_gt gtl.2.2.1) (fapp (fun p hp => Nat.ne_of_gt (gt3 p hp).2.2.1) off)
      case ql =>
        rintro j' ys' nwF ⟨_, rfl⟩
        rw [List.length_append, List.length_take]; omega
      case qt =>
        rintro j2 v2 ys' nwF oI2 I2 h5 tk5 dr5 mC5 E5 hj2 ⟨rfl, rfl⟩ hsub5 V5 off5 hit5
        refine cv_one V5 rfl rfl rfl fun h6 tk6 V6 => ?_
        refine' cv_name (s := ⟨h6, _, _, _, _⟩) (v := v2) V6 ?n1 ?n2 ?n3 ?n4 ?n5 ?n6
        case n6 => decide
        case n1 => rfl
        case n2 => rfl
        case n3 => rfl
        case n4 => exact if_pos rfl
        refine ⟨_, _, _, _, _, rfl, V6, fun _ h => h, off5, rfl, ?_⟩
        rw [List.take_add_one, Array.getElem?_toList, hj2, List.append_assoc]; rfl
      case qe =>
        rintro ys' nwF ⟨rfl, rfl⟩
        refine ⟨_, fun _ h => h, fun p hp => .tail _ (List.mem_append_right _ hp), fcons (Nat.ne_of_gt gtl.2.2.1) (fapp (fun p hp => Nat.ne_of_gt (gt3 p hp).2.2.1) off), (l3, W.listOf its3 n3) :: (tl3 ++ tl2), by rw [List.cons_append, List.append_assoc], ?_, ?_, ?_⟩
        · rw [List.take_of_length_le (by rw [Array.length_toList]; exact Nat.le_refl _), List.take_add_one, hU, List.flatMap_append]
          refine Paired.append (Paired.imp (fun _ _ x => x.mono fun p hp => .tail _ (List.mem_append_right _ hp)) hys) ?_
          simp only [Option.toList, List.flatMap_cons, List.flatMap_nil, List.append_nil]
          refine Paired.imp (fun _ _ x => x.monoT fun a vs h => ?_) hP3
          rcases List.mem_append.mp h with h | h
          · exact .tail _ (List.mem_append_left _ h)
          · simp only [List.mem_cons, Prod.mk.injEq] at h
            rcases h with ⟨_, h⟩ | ⟨_, h⟩ | ⟨_, h⟩ | h
            · exact absurd h (by obtain ⟨es, ep, hd, _⟩ := hn; intro e; rw [← e] at hd; cases hd)
            · exact absurd h (by simp [LCg.lst])
            · exact absurd (congrArg Obj.cls h) (by rw [hoI]; simp)
            · exact .tail _ (List.mem_append_right _ h)
        · have := (List.getElem?_eq_some_iff.mp hj).1
          omega
        · exact fcons (fun q hq => gtl.2.2.2 q (List.mem_append_right _ hq)) (fapp (fun p hp q hq => (gt3 p hp).2.2.2 q (List.mem_append_right _ hq)) htl2)
    case ze =>
      rintro Dc ys nw hc tkc drc Fc Nc offc ltc hsub ⟨tl2, rfl, hys, hyl, htl2⟩
      have hkl3 : kws.length = tm.kids.length := Paired.length hks
      rw [List.take_of_length_le (by rw [hkl3]; exact Nat.le_refl _)] at hys
      have hys2 : ys.length ≤ 1000 := by
        rw [Paired.length hys]
        cases tm <;> exact Nat.le_of_ble_eq_true rfl
      have hmlq : (lq, W.listOf #[Value.ref a] 0) ∈ tl2 ++ BASE := List.mem_append_right _ ((by rw [← hB]; k_mem))
      ((try k_fold); k_steps)
      rename_i Dn hh5 F5 N5 lDn kF5 kN5 _ _
      have hsubs : tm.subs = tm :: tm.kids.flatMap Tm.subs := by cases tm <;> rfl
      refine hret _ ((Dn, W.listOf ([Value.ref a] ++ ys).toArray 0) :: (((Dc, LCg.lst ys) :: (tl2 ++ [(D2, tupO kws), (lq, W.listOf #[Value.ref a] 0)])) ++ news)) _ _ _ kF5 (News_sub kN5 (by rw [← hB]; (k_extra "sub9"))) ⟨_, Dn, _, 0, rfl, rfl, ?_, ?_, ?_, ?_⟩
      · rw [hsubs]
        refine .cons (hR.mono (by (k_extra "sub9"))) (Paired.imp (fun _ _ x => x.mono ?_) hys)
        rw [← hB]; (k_extra "sub9")
      · refine fcons (fun q hq => ltc q (hnB q hq)) (fapp (fun p hp q hq => htl2 p hp q (hnB q hq)) ?_)
        exact fcons lD2.2.mem (fcons lq1.mem (fun _ h => nomatch h))
      · exact fun q hq => lDn.2.mem q (List.mem_append_right _ ((hnB q hq)))
      · have hall := lDn.2.mem
        refine fcons (Nat.ne_of_lt lDn.1) (fapp (fun p hp => Nat.ne_of_lt (hall p (List.mem_append_left _ hp))) ?_)
        rw [← hB] at hall
        exact fcons (Nat.ne_of_lt (hall _ (List.mem_append_right _ ((.head _))))) (fcons (Nat.ne_of_lt (hall _ (List.mem_append_right _ ((.tail _ (.head _)))))) (fun _ h => nomatch h))
  intro T
  have all : ∀ n, ∀ T : Tm, T.sz < n → ∀ (v : Value) (news : Led), Rel news v T → LPartsC w news T v := by
    intro n
    induction n with
    | zero => intro T h; exact absurd h (Nat.not_lt_zero _)
    | succ n ih => exact fun T h => main T fun T' h' => ih T' (by omega)
  exact fun v news hR => all _ T (Nat.lt_succ_self _) v news hR news fun p hp => hp

end

section
set_option maxHeartbeats 4000000
open PySem.F in
theorem keys_miss_list {prog : Program} {w : World} {A : Around} {E : Value → Shared → Prop} {s : Shared} {a : Addr} {xs : Array Value} {k : Nat} {Q : Option Value → Shared → Prop}
    (hx : s.heap.get? a = some { cls := .type "list", dict := none, data := .seq xs k, slots := #[] }) (hA : A.handled = none)
    (h : ∀ h' tk, (∀ b o, s.heap.get? b = some o → h'.get? b = some o) → Q none { s with heap := h', toks := tk }) :
    wpAny (model prog w) A (getAttr? (.ref a) "keys") Q E s := by
  obtain ⟨hp, g, d, tk, os⟩ := s
  have hT : ∀ tk', (⟨hp, g, d, tk', os⟩ : Shared).TypeIs (.ref a) "list" := fun _ => ⟨_, hx, rfl⟩
  have hmiss : typeLookup (.type "list") (Str.ofString "keys") = pure none := by rw [typeLookup_type, builtinLookup_eq_fast]; kernel_rfl
  have hname : (["__module__", "__name__", "__qualname__", "__doc__", "__annotations__"] : List Str).contains (Str.ofString "keys") = false := by decide +kernel
  have f1 := sub_AttributeError
  have f3 := PySem.F.slot_list_getattribute.lookup
  have f4 := PySem.F.slot_list_getattribute.bind (.ref a)
  have f5 := am_list_getattr_none
  unfold getAttr? getAttrBy? getAttrBy
  repeat (any_goals (first | assumption | exact hT _ | ((with_reducible show wpAny _ _ (call (Value.builtin "list.__getattribute__") _ _) _ _ _); refine call_meets PySem.F.slot_list_getattribute (hT _) am_entry_list_getattribute (PySem.F.args_list_getattribute_2 _ _) (meets_getattribute_miss_list a xs k #[] (Str.ofString "keys") _ hmiss hname (by rw [sizeLine_eq]; decide)) ⟨hx, by simpa using hA, fun h' tk' e hx' => ?_⟩) | wp_step))
  obtain ⟨t', u', he⟩ := hx'.there
  show wpAny _ _ (getattributeRaised _ _ _ _ _ _ _) _ _ _
  unfold getattributeRaised
  have kk := hx'.of.keeps
  repeat (any_goals (first | assumption | wp_step))
  exact h _ _ kk

theorem entry_dict_update_loop : entryFor table "dict.update.loop" = some Builtin.«dict.update.loop» := entryFor_of_tree (by kernel_rfl)
theorem plain_dict_update_loop : plainId "dict.update.loop" = true := by decide +kernel
noncomputable def storeAll {K : Type} [DecidableEq K] (l : List (K × Value)) : List (K × Value) := l.foldl (fun a p => stored a p.1 p.2) []
section
variable {prog : Program} {w : World} {K : Type} [DecidableEq K] {knd : PySem.KeyKind prog w K} {A : Around} {R : Result → Shared → Prop} {I : Addr} {fp wr : List Addr} {G : Array GenState → Array GenState → Prop} {P : Nat → Value → Prop} {St : Nat → Shared → Prop}
theorem stored_length (kvs : List (K × Value)) (k : K) (v : Value) : (stored kvs k v).length ≤ kvs.length + 1 := by
  unfold stored; split <;> simp
theorem storeAll_length (l : List (K × Value)) : (storeAll l).length ≤ l.length := by
  have : ∀ (l acc : List (K × Value)), (l.foldl (fun a p => stored a p.1 p.2) acc).length ≤ acc.length + l.length := by
    intro l
    induction l with
    | nil => intro acc; exact Nat.le_refl _
    | cons p l ih =>
      intro acc
      refine Nat.le_trans (ih _) ?_
      have := stored_length acc p.1 p.2
      simp only [List.length_cons]; omega
  simpa [storeAll] using this l []
theorem dict_loop {ps : List (K × Value)} {n : Nat} {H0 : Heap} (W : WalksS prog w A.in1 I fp wr G n P St) (d : Addr) (hdf : d ∉ fp) (hn : n = ps.length) (hb : ps.length ≤ 1000)
    (hval : ∀ i v, P i v → Ex4 fun p key x val => And5 (v = .ref p) (ps[i]? = some (x, val)) (knd.is x key = true) (IsTup H0 p #[key, val]) (p ∉ d :: wr)) :
    ∀ (k i : Nat) (s : Shared), n - i = k → i ≤ n → St i s → s.heap.DictOf knd d (storeAll (ps.take i)) → (∀ b o, b ∉ d :: wr → H0.get? b = some o → s.heap.get? b = some o) →
      (∀ s', Moved (d :: wr) G s s' → s'.heap.DictOf knd d (storeAll ps) → R (.ok (.ret .none)) s') →
      codeAny (model prog w) A (.builtin "dict.update.loop" ⟨[.ref d, .ref I, rawInt i, .none], []⟩) R s := by
  have hdw : d ∉ wr := fun h => hdf (W.sub _ h)
  have hsub : ∀ b ∈ wr, b ∈ d :: wr := fun b hb => List.mem_cons_of_mem _ hb
  intro k
  induction k with
  | zero =>
    intro i s hk hi hst hD hH hR
    have hin : i = n := by omega
    subst hin
    refine codeAny_builtin entry_dict_update_loop ?_
    rw [Around.under_plainId plain_dict_update_loop _]
    show wpAny _ A.in1 (pyNext (.ref I) >>= _) _ _ s
    refine wpAny_bind (W.done s _ _ hst fun s' hm => ?_)
    show wpAny _ A.in1 (Builtin.Dict.addKeywords d [] >>= _) _ _ s'
    refine wpAny_bind (wpAny_pure (wpAny_pure (hR s' (hm.mono hsub) ?_)))
    rw [List.take_of_length_le (by omega)] at hD
    obtain ⟨o, es, ep, ho, r⟩ := hD
    exact ⟨o, es, ep, hm.heap d _ hdw ho, r⟩
  | succ k ih =>
    intro i s hk hi hst hD hH hR
    have hlt : i < n := by omega
    refine codeAny_builtin entry_dict_update_loop ?_
    rw [Around.under_plainId plain_dict_update_loop _]
    show wpAny _ A.in1 (pyNext (.ref I) >>= _) _ _ s
    refine wpAny_bind (W.item i s _ _ hlt hst fun v s' hP hst' hm => ?_)
    obtain ⟨p, key, x, val, rfl, hps, hkey, ⟨op, hop, hcp, np, hdp⟩, hpw⟩ := hval i v hP
    have hop' : s'.heap.get? p = some op := hm.heap p _ (fun h => hpw (hsub _ h)) (hH p op hpw hop)
    have hD' : s'.heap.DictOf knd d (storeAll (ps.take i)) := by
      obtain ⟨o, es, ep, ho, r⟩ := hD
      exact ⟨o, es, ep, hm.heap d _ hdw ho, r⟩
    dsimp only
    refine wpAny_bind (wpAny_holding ?_)
    unfold Builtin.Dict.pairItems
    refine wpAny_bind (wpAny_tryCatch ?_)
    refine wpAny_bind (wpAny_typeOf (T := "tuple") ⟨op, hop', hcp⟩ ?_)
    rw [if_pos (by decide)]
    refine wpAny_bind (wpAny_seqItems hop' hdp (wpAny_pure ?_))
    dsimp only [Option.getD]
    refine wpAny_holding ?_
    have hlen : (storeAll (ps.take i)).length ≤ 1000 := by
      have := storeAll_length (ps.take i)
      simp at this; omega
    refine wpAny_dictSet_pairs hkey hD' (fun h' hD2 hs2 => ?_) (by rw [sizeLine_eq]; omega)
    have htake : storeAll (ps.take (i + 1)) = stored (storeAll (ps.take i)) x val := by
      rw [List.take_add_one, hps]; unfold storeAll; rw [Option.toList, List.foldl_append]; rfl
    refine wpAny_pure ⟨plainId_quiet plain_dict_update_loop _, ?_⟩
    have hnext := ih (i + 1) { s' with heap := h', toks := s'.toks + 1 } (by omega) hlt (W.frame _ s' _ _ hst' (Nat.le_succ _) fun b hb o e => (hs2.2 b (fun h : b = d => hdf (by rw [← h]; exact hb))).trans e) (by rw [htake]; exact hD2)
      (fun b o hb e => (hs2.2 b (fun h : b = d => hb (by rw [h]; exact .head _))).trans (hm.heap b o (fun h => hb (hsub b h)) (hH b o hb e)))
      (fun s'' hm'' hD'' => hR s'' (Moved.trans W.gtrans ((hm.mono hsub).then_heap (Nat.le_succ _) fun b o hb e => (hs2.2 b (fun h : b = d => hb (by rw [h]; exact .head _))).trans e) hm'') hD'')
    exact hnext
end
section
variable {prog : Program} {w : World} {K : Type} [DecidableEq K] {knd : PySem.KeyKind prog w K} {A : Around} {E : Value → Shared → Prop} {s : Shared}
theorem call_dict_pairs {l : Addr} {its : Array Value} {n : Nat} {ps : List (K × Value)} {Q : Value → Shared → Prop} (hh : A.handled = none) (hl : s.heap.get? l = some { cls := .type "list", dict := none, data := .seq its n, slots := #[] })
    (hn : its.size = ps.length) (hb : ps.length ≤ 1000) (hval : ∀ (i : Nat) (v : Value), its[i]? = some v → Ex4 fun p key x val => And4 (v = Value.ref p) (ps[i]? = some (x, val)) (knd.is x key = true) (IsTup s.heap p #[key, val]))
    (h : ∀ h' tk, h'.DictOf knd s.heap.objs.size (storeAll ps) → (∀ b o, s.heap.get? b = some o → h'.get? b = some o) → Q (.ref s.heap.objs.size) { s with heap := h', toks := tk }) :
    wpAny (model prog w) A (call (.type "dict") [.ref l]) Q E s := by
  refine callType_codes (Q₁ := fun obj s₁ => obj = .ref s.heap.objs.size ∧ s₁ = { s with heap := s.heap.push { cls := .type "dict", data := .dict #[] } }) PySem.F.kt_called_dict (PySem.F.kt_typeCall_dict_1 _) PySem.F.entry_dict_init (kt_code_dict_new _ ⟨rfl, rfl⟩) ?_
  rintro obj s₁ ⟨rfl, rfl⟩
  have hnew : (s.heap.push { cls := .type "dict", data := .dict #[] }).DictOf knd s.heap.objs.size [] := Heap.DictOf.new s.heap
  have hl1 : (s.heap.push { cls := .type "dict", data := .dict #[] }).get? l = some { cls := .type "list", dict := none, data := .seq its n, slots := #[] } := Heap.get?_push_of_some _ hl
  have hllt : l < s.heap.objs.size := Heap.lt_size hl
  refine ⟨hnew.typeIs, PySem.F.args_dict_init_2 _ _, ?_⟩
  unfold Builtin.«dict.__init__»
  refine wpAny_bind ?_
  unfold Builtin.Dict.selfAndRest
  refine wpAny_bind (wpAny_notOrdered_dict hnew.typeIs ?_)
  show wpAny _ _ (pure (s.heap.objs.size, [Value.ref l])) _ _ _
  refine wpAny_pure ?_
  show wpAny _ _ (Builtin.Dict.updateFrom "dict.__init__" s.heap.objs.size (.ref l) [] .none) _ _ _
  unfold Builtin.Dict.updateFrom
  refine wpAny_bind (wpAny_typeOf (T := "list") ⟨_, hl1, rfl⟩ ?_)
  rw [if_pos (by decide)]
  refine wpAny_bind (keys_miss_list hl1 (by simpa using hh) fun h₁ tk₁ k₁ => ?_)
  rw [if_pos (show (none : Option Value).isNone = true from rfl)]
  refine wpAny_bind (wpAny_rule ?_)
  have hli : Heap.IsList h₁ l its := ⟨_, k₁ _ _ hl1, rfl, n, rfl⟩
  refine wpAny_bind (wpAny_pyIter_list (s := ⟨h₁, _, _, _, _⟩) hli ?_)
  have hd₁ : h₁.DictOf knd s.heap.objs.size (storeAll (ps.take 0)) := hnew.keep k₁
  generalize hH : h₁.push { cls := .type "list_iterator", data := .fields #[.ref l, .int 0 0] } = H
  have up : ∀ b o, h₁.get? b = some o → H.get? b = some o := fun b o e => hH ▸ Heap.get?_push_of_some _ e
  have hIt : H.IsListIter h₁.objs.size l 0 := ⟨_, hH ▸ Heap.get?_push_size _ rfl, rfl, rfl⟩
  have hllt₁ : l < h₁.objs.size := Heap.lt_size (k₁ _ _ hl1)
  have hdlt₁ : s.heap.objs.size < h₁.objs.size := by obtain ⟨o, es, ep, ho, _⟩ := hd₁; exact Heap.lt_size ho
  have hdf : s.heap.objs.size ∉ [h₁.objs.size, l] := by
    simp only [List.mem_cons, List.not_mem_nil, or_false, not_or]
    exact ⟨Nat.ne_of_lt hdlt₁, Nat.ne_of_gt hllt⟩
  have W := (Walks.list (prog := prog) (w := w) (A := A.in1.in1) (by simpa using hh) h₁.objs.size l (Nat.ne_of_lt hllt₁) its).toS
  have old0 : ∀ b o, s.heap.get? b = some o → H.get? b = some o := fun b o e => up _ _ (k₁ _ _ (Heap.get?_push_of_some _ e))
  refine wpAny_pure ⟨plainId_quiet plain_dict_update_loop _, dict_loop (H0 := s.heap) W s.heap.objs.size hdf hn hb (fun i v hv => ?_) its.size 0 ⟨H, _, _, _, _⟩ (by omega) (Nat.zero_le _) ⟨hIt, hli.at fun o e => up _ o e⟩ (hd₁.keep up) (fun b o _ e => old0 b o e) (fun s' hm hD => ?_)⟩
  · obtain ⟨p, key, x, val, e1, e2, e3, e4⟩ := hval i v hv
    refine ⟨p, key, x, val, e1, e2, e3, e4, ?_⟩
    have hp : p < s.heap.objs.size := by obtain ⟨o, ho, _⟩ := e4; exact Heap.lt_size ho
    simp only [List.mem_cons, List.not_mem_nil, or_false, not_or]
    exact ⟨Nat.ne_of_lt hp, Nat.ne_of_lt (Nat.lt_trans hp hdlt₁)⟩
  · obtain ⟨h', g', d', tk', os'⟩ := s'
    have eg : g' = s.gens := hm.gens
    have ed : d' = s.drawn := hm.drawn
    have eo : os' = s.os := hm.os
    subst eg; subst ed; subst eo
    refine ⟨rfl, h h' tk' hD fun b o e => ?_⟩
    have hb := Heap.lt_size e
    exact hm.heap b o (by simp only [List.mem_cons, List.not_mem_nil, or_false, not_or]; exact ⟨Nat.ne_of_lt hb, Nat.ne_of_lt (Nat.lt_trans hb hdlt₁)⟩) (old0 b o e)
end
section
variable {prog : Program} {w : World} {K : Type} [DecidableEq K] {knd : PySem.KeyKind prog w K} {A : Around} {E : Value → Shared → Prop} {s : Shared} {h₀ : Heap} {L : Addr} {m : Str → Option Value} {news : Led}
noncomputable def PairIn (knd : PySem.KeyKind prog w K) (news : Led) (v : Value) (p : K × Value) : Prop := Ex2 fun a key => And3 (v = .ref a) ((a, tupO [key, p.2]) ∈ news) (knd.is p.1 key = true)
theorem dict_pairsL {l : Addr} {its : Array Value} {n : Nat} {ps : List (K × Value)} {Q : Value → Shared → Prop} (hh : A.handled = none) (F : Fr h₀ L s.heap m) (N : News h₀ L s.heap news) (hbig : h₀.NoLimit) (hl : (l, W.listOf its n) ∈ news)
    (hP : Paired (PairIn knd news) its.toList ps) (hb : ps.length ≤ 1000)
    (h : ∀ h' tk d o, Fr h₀ L h' m → News h₀ L h' ((d, o) :: news) → (∀ p ∈ news, p.1 < d) → (d == sysModules) = false → o.IsDictOf knd (storeAll ps) → Q (.ref d) { s with heap := h', toks := tk }) :
    wpAny (model prog w) A (call (.type "dict") [.ref l]) Q E s := by
  refine call_dict_pairs (knd := knd) (its := its) (n := n) hh (N _ hl).1 (by rw [← Array.length_toList]; exact Paired.length hP) hb (fun i v hv => ?_) fun h' tk hD k => ?_
  · obtain ⟨p, hp, a, key, e, hm, hk⟩ := Paired.get hP (i := i) (a := v) (by simpa using hv)
    exact ⟨a, key, p.1, p.2, e, hp, hk, ⟨_, (N _ hm).1, rfl, 0, rfl⟩⟩
  · obtain ⟨o, ho, hd⟩ := Heap.dictOf_iff.mp hD
    obtain ⟨F', N', lt⟩ := SG.led_new F N k (Nat.le_refl _) ho
    exact h h' tk _ o F' N' lt (F.notModules (modules_low hbig)) hd
end

end
theorem ln_NB_23 : True := by
  k_with "call type:dict" => (((k_here; (with_reducible show wpAny _ _ (call (Value.type _) [Value.ref _]) _ _ _); k_dflt (refine' dict_pairsL (knd := PySem.strKind _ _) ?hhq9 ?Fq9 ?Nq9 ?bq9 ?lq9 ?Pq9 ?zq9 ?_; (case Pq9 => assumption); (case hhq9 => exact rfl); (case Fq9 => k_asm); (case Nq9 => k_asm); (case bq9 => exact Top.nolimit (by k_asm)); (case lq9 => k_mem); (case zq9 => assumption)); (intro _ _ _ _ _ _ l1q9 _ _); (try k_lt l1q9))) <;> walk_at "hide9a")
  exact True.intro

section
set_option maxHeartbeats 4000000
structure LIt (o : Obj) (t : Addr) (i : Nat) : Prop where
  cls : o.cls = .type "list_iterator"
  data : o.data = .fields #[.ref t, .int i 0]
section
variable {prog : Program} {w : World} {A : Around} {E : Value → Shared → Prop} {s : Shared} {h₀ : Heap} {L : Addr} {m : Str → Option Value} {l : Led} {env : Env}
theorem list_turn {R : Result → Shared → Prop} {x : Str} {px : Pos} {body : List Stmt} {I t : Addr} {i n : Nat} {oI : Obj} {its : Array Value} {v : Value} {g : Obj → Led}
    (F : Fr h₀ L s.heap m) (N : News h₀ L s.heap l) (U : UpdF I oI l g) (hI : LIt oI t i) (ht : (t, W.listOf its n) ∈ l) (hx : its[i]? = some v)
    (h : ∀ h' oI', Fr h₀ L h' m → News h₀ L h' (g oI') → LIt oI' t (i + 1) →
      wpAny (model prog w) A (storeName env x v) (fun _ s₂ => wpAny (model prog w) A (execs body env) (fun f s₃ => match f with
            | .next | .cont => codeAny (model prog w) A (.forLoop (.Name x px) (.ref I) body [] env) R s₃
            | .brk => R (.ok .next) s₃
            | .ret v => R (.ok (.ret v)) s₃) (notedBy (model prog w) A env fun e s' => R (.error e) s') s₂) (notedBy (model prog w) A env fun e s' => R (.error e) s') { s with heap := h' }) :
    codeAny (model prog w) A (.forLoop (.Name x px) (.ref I) body [] env) R s := by
  have hi := N _ (UpdF_old U)
  have hl : s.heap.IsList t its := ⟨_, (N _ ht).1, rfl, n, rfl⟩
  refine for_step (wpAny_pyNext_list_item (⟨oI, hi.1, hI.cls, hI.data⟩ : s.heap.IsListIter I t i) hl hx fun h' hit hs => ?_)
  obtain ⟨oI', ho, hc, hd⟩ := hit
  dsimp only
  unfold letOwnedTupleGo
  refine wpAny_pure ?_
  exact wpAny_assign_Name (h h' oI' (F.change hs hi.2.1 hi.2.2) (News_upd N U (fun b ob hb q => hs.extBut b ob hb q) ho) ⟨hc, hd⟩)
theorem list_stop {R : Result → Shared → Prop} {x : Str} {px : Pos} {body : List Stmt} {I t : Addr} {i n : Nat} {oI : Obj} {its : Array Value} {r : Led}
    (hh : A.handled = none) (F : Fr h₀ L s.heap m) (N : News h₀ L s.heap l) (hIm : (I, oI) ∈ l) (hI : LIt oI t i) (ht : (t, W.listOf its n) ∈ l) (hx : its[i]? = none) (sub : ∀ p ∈ r, p ∈ l) (off : ∀ p ∈ r, p.1 ≠ I)
    (h : ∀ h', Fr h₀ L h' m → News h₀ L h' r → R (.ok .next) { s with heap := h' }) :
    codeAny (model prog w) A (.forLoop (.Name x px) (.ref I) body [] env) R s := by
  have hi := N _ hIm
  have hl : s.heap.IsList t its := ⟨_, (N _ ht).1, rfl, n, rfl⟩
  refine for_step (wpAny_pyNext_list_end hh (⟨oI, hi.1, hI.cls, hI.data⟩ : s.heap.IsListIter I t i) hl hx fun h' hk => wpAny_execs_nil ?_)
  exact h h' ⟨F.ns.at' fun o q => hk _ o (Ne.symm hi.2.1) q, fun b o q => hk b o (fun z => by subst z; exact nomatch hi.2.2.symm.trans q) (F.keep b o q), F.above⟩ (fun p hp => ⟨hk _ _ (off p hp) (N p (sub p hp)).1, (N p (sub p hp)).2⟩)
end

section
variable {prog : Program} {w : World} {A : Around} {E : Value → Shared → Prop} {s : Shared} {h₀ : Heap} {L : Addr} {m : Str → Option Value} {l : Led}
theorem list_iter {t : Addr} {its : Array Value} {n : Nat} {Q : Value → Shared → Prop} (F : Fr h₀ L s.heap m) (N : News h₀ L s.heap l) (ht : (t, W.listOf its n) ∈ l)
    (h : ∀ I h' oI, Fr h₀ L h' m → News h₀ L h' ((I, oI) :: l) → LIt oI t 0 → (∀ p ∈ l, p.1 < I) → Q (.ref I) { s with heap := h' }) : wpAny (model prog w) A (pyIter (.ref t)) Q E s :=
  wpAny_pyIter_list ⟨_, (N _ ht).1, rfl, n, rfl⟩ (h _ _ _ (F.push _) (News.push F N _) ⟨rfl, rfl⟩ fun p hp => Heap.lt_size (N p hp).1)
end

end
theorem ln_ND_24 : True := by
  k_with "exec For Name Call cons nil" => (k_here; refine wpAny_For ?_ (by intro _; with_unfolding_all rfl))
  k_with "pyIter ref" => (((k_here; k_dflt (refine' list_iter ?Fq9 ?Nq9 ?lq9 ?_; (case Fq9 => k_asm); (case Nq9 => k_asm); (case lq9 => k_mem)); (intro _ _ _ _ _ _ l1q9); (try k_lt l1q9))) <;> walk_at "hide9a")
  exact True.intro

section
set_option maxHeartbeats 4000000
noncomputable def LF (n : Nat) : Str := Str.ofString "leaf" ++ Str.ofString (toString (n : Int))
theorem LF_eq (n : Nat) : Str.empty ++ Str.ofString "leaf" ++ Str.ofString (toString (n : Int)) = LF n := by unfold LF; rw [PySem.Str.empty_append]
noncomputable def fl (K : List Str) : Nat → Nat → Nat
  | 0, k => k
  | n + 1, k => if LF k ∈ K then fl K n (k + 1) else k
noncomputable def asgL (K : List Str) : Nat → List Str → List (Str × Str)
  | _, [] => []
  | k, x :: r => (x, LF (fl K 3 k)) :: asgL K (fl K 3 k + 1) r
theorem fl_le (K : List Str) : ∀ n k, fl K n k ≤ k + n
  | 0, k => Nat.le_refl _
  | n + 1, k => by
    unfold fl; split
    · have := fl_le K n (k + 1); omega
    · omega
theorem fl_in {K : List Str} {n k : Nat} (h : LF k ∈ K) : fl K (n + 1) k = fl K n (k + 1) := by rw [fl, if_pos h]
theorem fl_out {K : List Str} {n k : Nat} (h : LF k ∉ K) : fl K n k = k := by
  cases n with
  | zero => rfl
  | succ n => rw [fl, if_neg h]
theorem fl_max {K : List Str} (hK : ∀ n, n ≤ 20 → LF n ∈ K → n ≤ 2) : ∀ n k, k ≤ 20 → fl K n k ≤ max k 3
  | 0, k, _ => Nat.le_max_left _ _
  | n + 1, k, hk => by
    unfold fl; split
    · rename_i h
      have := hK k hk h
      have := fl_max hK n (k + 1) (by omega); omega
    · omega
theorem fl_free {K : List Str} (hK : ∀ n, n ≤ 20 → LF n ∈ K → n ≤ 2) : ∀ n k, k ≤ 17 → 3 ≤ k + n → LF (fl K n k) ∉ K
  | 0, k, hk, h => fun hm => by have := hK k (by omega) hm; omega
  | n + 1, k, hk, h => by
    unfold fl; split
    · rename_i h'
      have := hK k (by omega) h'
      exact fl_free hK n (k + 1) (by omega) (by omega)
    · assumption
section
variable {K : Type} [DecidableEq K]
theorem valueAt_isSome {kvs : List (K × Value)} {k : K} : (valueAt kvs k).isSome = decide (k ∈ kvs.map (·.1)) := by
  unfold valueAt
  induction kvs with
  | nil => simp
  | cons p r ih =>
    rw [List.find?_cons]
    by_cases h : p.1 = k
    · simp [h]
    · simp only [h, decide_false, List.map_cons, List.mem_cons]
      rw [ih]
      simp [Ne.symm h]
theorem stored_keys {kvs : List (K × Value)} {k : K} {v : Value} {x : K} : x ∈ (stored kvs k v).map (·.1) ↔ x = k ∨ x ∈ kvs.map (·.1) := by
  unfold stored
  rw [← PyProof.Rows.valueAt_isSome_eq_any kvs k, valueAt_isSome]
  split
  · rename_i h
    have hk := of_decide_eq_true h
    have : (kvs.map fun kv => if kv.1 = k then (kv.1, v) else kv).map (·.1) = kvs.map (·.1) := by
      rw [List.map_map]
      refine List.map_congr_left fun p _ => ?_
      by_cases hp : p.1 = k
      · simp [hp]
      · simp [hp]
    rw [this]; exact ⟨.inr, fun e => e.elim (fun q => q ▸ hk) id⟩
  · simp [or_comm]
theorem storeAll_keys (l : List (K × Value)) (x : K) : x ∈ (storeAll l).map (·.1) ↔ x ∈ l.map (·.1) := by
  have : ∀ (l acc : List (K × Value)), x ∈ (l.foldl (fun a p => stored a p.1 p.2) acc).map (·.1) ↔ x ∈ acc.map (·.1) ∨ x ∈ l.map (·.1) := by
    intro l
    induction l with
    | nil => intro acc; simp
    | cons p l ih =>
      intro acc
      rw [List.foldl_cons, ih, stored_keys, List.map_cons, List.mem_cons]
      constructor
      · rintro ((h | h) | h)
        · exact .inr (.inl h)
        · exact .inl h
        · exact .inr (.inr h)
      · rintro (h | h | h)
        · exact .inl (.inr h)
        · exact .inl (.inl h)
        · exact .inr h
  simpa [storeAll] using this l []
theorem stored_new {kvs : List (K × Value)} {k : K} {v : Value} (h : k ∉ kvs.map (·.1)) : stored kvs k v = kvs ++ [(k, v)] := by
  unfold stored
  rw [← PyProof.Rows.valueAt_isSome_eq_any kvs k, valueAt_isSome, if_neg (by simpa using h)]
end
theorem dd_nodup (l : List Str) (h : l.length ≤ 2) : (dd l).Nodup := by
  match l, h with
  | [], _ => exact List.nodup_nil
  | [x], _ => simp [dd]
  | [x, y], _ =>
    show (if x = y then [x] else [x, y]).Nodup
    split
    · simp
    · simpa using by assumption
theorem sortV_perm (l : List Str) : (sortV l).Perm l := by
  match l with
  | [] => exact .refl _
  | [x] => exact .refl _
  | [x, y] =>
    show List.Perm (if _ then _ else _) _
    split
    · exact .refl _
    · exact .swap _ _ _
  | _ :: _ :: _ :: _ => exact .refl _
theorem vars_nodup (T : Tm) (h : (T.subs.filter Tm.isVar).length ≤ 2) : T.vars.Nodup := (sortV_perm _).nodup_iff.mpr (dd_nodup _ (by rw [List.length_map]; exact h))
theorem vars_length (T : Tm) (h : (T.subs.filter Tm.isVar).length ≤ 2) : T.vars.length ≤ 2 := by
  rw [Tm.vars, (sortV_perm _).length_eq]; exact dd_length (by rw [List.length_map]; exact h)
noncomputable def tabσ (a : List (Str × Str)) (x : Str) : Option Str := (a.find? fun p => p.1 = x).map (·.2)
noncomputable def TabP (news : Led) (p : Str × Value) (q : Str × Str) : Prop := p.1 = q.1 ∧ Ex2 fun ad t => And2 (p.2 = .ref ad) ((ad, tupO [.str q.2 t]) ∈ news)
theorem tabOk_of (w : World) {news : Led} {kvs : List (Str × Value)} {a : List (Str × Str)} (h : Paired (TabP news) kvs a) : TabOk w news kvs (tabσ a) := by
  intro x
  induction h with
  | nil => exact ⟨fun _ => rfl, fun y hy => by simp [tabσ] at hy⟩
  | @cons p q r r' h1 h2 ih =>
    obtain ⟨e, ad, t, e2, hm⟩ := h1
    obtain ⟨p1, p2⟩ := p
    obtain ⟨q1, q2⟩ := q
    simp only at e e2 hm
    subst e; subst e2
    by_cases hx : p1 = x
    · subst hx
      simp only [tabσ, valueAt, List.find?_cons, decide_true, Option.map_some, Option.some.injEq]
      exact ⟨fun h => (nomatch h), fun y hy => ⟨ad, t, rfl, hy ▸ hm⟩⟩
    · simpa only [tabσ, valueAt, List.find?_cons, hx, decide_false] using ih
theorem Paired.keys {news : Led} : ∀ {kvs : List (Str × Value)} {a : List (Str × Str)}, Paired (TabP news) kvs a → kvs.map (·.1) = a.map (·.1) := by
  intro _ _ h
  induction h with
  | nil => rfl
  | cons h _ ih => rw [List.map_cons, List.map_cons, h.1, ih]
theorem StrsAre_drop {vs : List Value} {ss : List Str} (h : StrsAre vs ss) : ∀ i, StrsAre (vs.drop i) (ss.drop i) := by
  induction h with
  | nil => intro i; simp; exact .nil
  | cons x t h ih =>
    intro i
    cases i with
    | zero => exact .cons x t h
    | succ i => simpa using ih i
noncomputable def sig (T0 T1 T2 : Tm) : Str → Option Str := tabσ (asgL (([T0, T1, T2].flatMap Tm.subs).map Tm.op) 0 T0.vars)
section
variable {prog : Program} {w : World} {A : Around} {E : Value → Shared → Prop} {s : Shared} {h₀ : Heap} {L : Addr} {l : Led}
theorem tup_itemK {value slice : PySem.Expr} {t : Addr} {v : Value} {vs : List Value} {k : Int} {j : Nat} {u : Tok} {Q : Value → Shared → Prop} (N : News h₀ L s.heap l) (ht : (t, tupO vs) ∈ l) (hk : seqIndex? k vs.length = some j) (h0 : -100 < k ∧ k < 100) (hv : vs[j]? = some v) (h : Q v s)
    (hs : subscripted slice false (.ref t) (.int k u) = operate [.ref t, .int k u] (getItem (.ref t) (.int k u))) :
    wpAny (model prog w) A (subscriptTail value slice (.ref t) (.int k u)) Q E s :=
  item_tupleT (j := j) (News.isTup N ht) (by omega) (by omega) hk hv h hs
end
theorem StrsAre_at {vs : List Value} {i : Nat} {v : Value} {r : List Str} (h : StrsAre (vs.drop i) r) (hv : vs[i]? = some v) : Ex3 fun x t r' => And3 (v = .str x t) (r = x :: r') (StrsAre (vs.drop (i + 1)) r') := by
  obtain ⟨hlt, he⟩ := List.getElem?_eq_some_iff.mp hv
  rw [List.drop_eq_getElem_cons hlt, he] at h
  cases h with | cons x t h => exact ⟨x, t, _, rfl, rfl, h⟩
theorem k1000 {n : Nat} (h : n ≤ 1000) : n ≤ sizeLine := by rw [sizeLine_eq]; omega
theorem while_ind {prog : Program} {w : World} {A : Around} {R : Result → Shared → Prop} {test body orelse env} {s : Shared} (I : Nat → Shared → Prop)
    (turn : ∀ n s, I n s →
      wpAny (model prog w) A (isTrue test env (eval test env)) (fun b s₂ =>
        if b then wpAny (model prog w) A (execs body env) (fun f s₃ => match f with
            | .next | .cont => Hold (∃ m, m < n ∧ I m s₃)
            | .brk => R (.ok .next) s₃
            | .ret v => R (.ok (.ret v)) s₃) (notedBy (model prog w) A env fun e s' => R (.error e) s') s₂
        else wpAny (model prog w) A (execs orelse env) (fun f s₃ => R (.ok f) s₃) (notedBy (model prog w) A env fun e s' => R (.error e) s') s₂)
        (notedBy (model prog w) A env fun e s' => R (.error e) s') s)
    (n : Nat) (h : I n s) : codeAny (model prog w) A (.whileLoop test body orelse env) R s := codeAny_whileLoop I turn n h

end
theorem ln_NE_25 : True := by
  k_with "setItem" => (((k_here; (with_reducible show wpAny _ _ (setItem (Value.ref _) (Value.str _ _) _) _ _ _); k_dflt (refine' kda_set ?Fq9 ?Nq9 ?Uq9 ?dq9 (strKind_is _ _ _ _) ?zq9 ?_; (case Fq9 => k_asm); (case Nq9 => k_asm); (case Uq9 => k_updF); (case dq9 => assumption); (case zq9 => exact k1000 (by assumption))); (intro _ _ _ N'q9 _); (try dsimp only at N'q9))) <;> walk_at "hide9a")
  k_with "exec While Compare cons nil" => (k_here; refine wpAny_While ?_)
  k_with "compareOp In str ref" => (k_here; k_dflt (refine' kda_in ?Nq9 ?pq9 ?dq9 ?loq9 (strKind_is _ _ _ _) _ rfl ?_; (case Nq9 => k_asm); (case pq9 => k_mem); (case dq9 => assumption); (case loq9 => assumption)))
  k_with "subscriptTail Name Constant ref int" => (k_here; (with_reducible show wpAny _ _ (subscriptTail _ (PySem.Expr.Constant (Const.int _) _ _) (Value.ref _) (Value.int _ _)) _ _ _); k_dflt (refine' tup_itemK ?Nq9 ?lq9 ?kq9 ?zq9 ?vq9 ?_ ?sq9; (case Nq9 => k_asm); (case lq9 => k_mem); (case kq9 => with_unfolding_all rfl); (case zq9 => decide); (case vq9 => with_unfolding_all rfl); (case sq9 => with_unfolding_all rfl)))
  exact True.intro

section
set_option maxHeartbeats 4000000

end
theorem ln_NC_26 : True := by
  k_with "eval ListComp Tuple cons" => (((k_here; (with_reducible rename Fr _ _ _ _ => F9q9); k_dflt (refine' comp_two F9q9 ?hhq9 ?hclq9 ?hceq9 ?hkiq9 ?hnaq9 ?hsq9 ?hs2q9 ?_; (case hhq9 => exact rfl); (case hclq9 => exact rfl); (case hkiq9 => exact rfl); (case hceq9 => decide); (case hnaq9 => decide); (case hsq9 => (intro _; with_unfolding_all rfl)); (case hs2q9 => (intro _ _; with_unfolding_all rfl))))) <;> walk_at "hide9a")
  k_with "call ref" => (k_here; (with_reducible show wpAny _ _ (call (Value.ref 79) [_]) _ _ _); k_dflt (refine' Fn.useK ?kCq9 ?kBq9 ?kFq9 ?kXq9 ?kNq9 ?kTq9 ?kkq9 ?kdq9 ?kuq9 ?_; (case kBq9 => k_asm); (case kFq9 => k_asm); (case kXq9 => k_asm); (case kNq9 => k_asm); (case kTq9 => k_asm); (case kkq9 => first | exact rfl | assumption); (case kCq9 => exact (variables_spec _ _ _ _ (Rel.mono ‹Rel _ _ _› (by (k_extra "sub9"))) (by assumption) (by assumption))); (case kdq9 => ktr_room); (case kuq9 => ktr_units)); (intro KQ9q9 hKQ9q9 _ _ _ _ _ _ _ P9q9); (obtain ⟨_, _, _, e1q9, e2q9, _, _⟩ := P9q9); (replace e1q9 := Eq.symm e1q9); (subst e1q9); (try subst e2q9); (refine hKQ9q9 _ _ _ _ ?_); (clear hKQ9q9 KQ9q9); (try dsimp only))
  exact True.intro
section
set_option maxHeartbeats 4000000
theorem ln_NC_27 : True := by
  k_with "call ref" => (k_here; (with_reducible show wpAny _ _ (call (Value.ref 195) [_, _]) _ _ _); k_dflt (refine' Fn.useK ?kCq9 ?kBq9 ?kFq9 ?kXq9 ?kNq9 ?kTq9 ?kkq9 ?kdq9 ?kuq9 ?_; (case kBq9 => k_asm); (case kFq9 => k_asm); (case kXq9 => k_asm); (case kNq9 => k_asm); (case kTq9 => k_asm); (case kkq9 => first | exact rfl | assumption); (case kCq9 => exact (FillC.at ‹FillC _ _ _ _ _ _› _ (by first | assumption | (k_extra "sub9")))); (case kdq9 => ktr_room); (case kuq9 => ktr_units)); (intro KQ9q9 hKQ9q9 _ _ _ _ _ _ _ P9q9); (obtain ⟨_, e1q9, _, _⟩ := P9q9); (replace e1q9 := Eq.symm e1q9); (subst e1q9); (try subst e2q9); (refine hKQ9q9 _ _ _ _ ?_); (clear hKQ9q9 KQ9q9); (try dsimp only))
  exact True.intro
theorem grounded_spec (w : World) (ov e : Addr) (vp v1 v2 : Value) (T0 T1 T2 : Tm) (news : Led) (hov : (ov, tupO [.ref e, vp, v1, v2]) ∈ news) (R0 : Rel news vp T0) (R1 : Rel news v1 T1) (R2 : Rel news v2 T2)
    (s0 : T0.short) (s1 : T1.short) (s2 : T2.short) (hl : (T0.subs.filter Tm.isVar).length ≤ 2) (hK : ∀ n, n ≤ 20 → LF n ∈ ([T0, T1, T2].flatMap Tm.subs).map Tm.op → n ≤ 2) :
    Fn w 200 40 [.ref ov] news (fun news' r => Ex4 fun tl D r1 r2 => And6 (news' = (D, tupO [r1, r2]) :: (tl ++ news)) (r = .ref D) (Rel (tl ++ news) r1 (T1.fill (sig T0 T1 T2))) (Rel (tl ++ news) r2 (T2.fill (sig T0 T1 T2))) (∀ p ∈ tl, ∀ q ∈ news, q.1 < p.1) (∀ q ∈ tl ++ news, q.1 < D)) := by
  have z0 := T0.sz_le
  have z1 := T1.sz_le
  have z2 := T2.sz_le
  (w_top off; unfold Fn; intro loose mean mg mb dp un gd cn cs a9 ccd cl outer A₀ base h₀ L m s Q E B F X N T hk hdp hun hret; (have kf : KF (rgTop.heap_1 w.params) PySem.Challenge.rw_rg0118_01 := (by k_fill; trivial)); clear kf; refine wpAny_call ?_; k_dflt ktr_enter)
  ((try k_fold); k_steps)
  rename_i D2 hh2 F2 N2 lD2
  replace lD2 := allLt_of lD2
  have hKs : Paired (fun v T => Rel news v T ∧ T.sz ≤ 2) [vp, v1, v2] [T0, T1, T2] := .cons ⟨R0, z0⟩ (.cons ⟨R1, z1⟩ (.cons ⟨R2, z2⟩ .nil))
  clear z0 z1 z2
  refine ⟨D2, [vp, v1, v2], (D2, tupO [vp, v1, v2]) :: news, fun j ys nw => Ex2 fun tl2 ps => And5 (nw = tl2 ++ ((D2, tupO [vp, v1, v2]) :: news)) (Paired (PairIn (PySem.strKind PySem.Challenge.rw_rg0118_01.row.prog w) nw) ys ps) (ps.map (·.1) = (([T0, T1, T2].take j).flatMap Tm.subs).map Tm.op) (j ≤ 3) (∀ p ∈ tl2, ∀ q ∈ ((D2, tupO [vp, v1, v2]) :: news), q.1 < p.1), rfl, F2, N2, .head _, ⟨[], [], rfl, .nil, rfl, Nat.zero_le _, fun _ h => nomatch h⟩, ?zt, ?ze⟩
  case zt =>
    rintro j vv ys nw oI I C D' hh' tk' dr' mC E' hj ⟨tl2, ps, rfl, hys, hps, hjl, htl2⟩ hsub V off hit
    obtain ⟨U, hU, hRv, hUs⟩ := Paired.get hKs hj
    refine cv_one V rfl rfl rfl fun h4 tk4 V4 => ?_
    obtain ⟨oC, hn, N4⟩ := V4.led
    have F4 := V4.F
    clear R0 R1 R2
    ((try k_fold); k_steps)
    rename_i h9' tk9' dr9' F9' tl3 l3 its3 n3 hP3 hx3 hy3 hz3 N9'
    generalize hB : (D2, tupO [vp, v1, v2]) :: news = BASE at *
    have hoI : oI.cls = .type "tuple_iterator" := by
      obtain ⟨o', e', hc', _⟩ := hit
      have := (V.N _ (.head _)).1
      rw [this] at e'; cases e'; exact hc'
    have off4C : ∀ p ∈ (I, oI) :: (tl2 ++ BASE), p.1 ≠ C := V4.offC
    have off4D : ∀ p ∈ (I, oI) :: (tl2 ++ BASE), p.1 ≠ D' := V4.offD
    have gt3 : ∀ p ∈ tl3, C < p.1 ∧ D' < p.1 ∧ I < p.1 ∧ ∀ q ∈ tl2 ++ BASE, q.1 < p.1 := fun p hp => ⟨hx3 p hp _ (.head _), hx3 p hp _ (.tail _ (.head _)), hx3 p hp _ (.tail _ (.tail _ (.head _))), fun q hq => hx3 p hp q (.tail _ (.tail _ (.tail _ hq)))⟩
    have gtl : C < l3 ∧ D' < l3 ∧ I < l3 ∧ ∀ q ∈ tl2 ++ BASE, q.1 < l3 := ⟨hy3 _ (.head _), hy3 _ (.tail _ (.head _)), hy3 _ (.tail _ (.tail _ (.head _))), fun q hq => hy3 q (.tail _ (.tail _ (.tail _ hq)))⟩
    have hP4 : PartsOk U.sz (tl3 ++ (tl2 ++ BASE)) its3.toList U.subs := hP3.monoT fun a vs h => by
      rcases List.mem_append.mp h with h | h
      · exact List.mem_append_left _ h
      · simp only [List.mem_cons, Prod.mk.injEq] at h
        rcases h with ⟨_, h⟩ | ⟨_, h⟩ | ⟨_, h⟩ | h
        · exact absurd h (by obtain ⟨es, ep, hd, _⟩ := hn; intro e; rw [← e] at hd; cases hd)
        · exact absurd h (by simp [LCg.lst])
        · exact absurd (congrArg Obj.cls h) (by rw [hoI]; simp)
        · exact List.mem_append_right _ h
    have hU5 : U.subs.length ≤ 5 := by cases U <;> exact Nat.le_of_ble_eq_true rfl
    have hlps : ps.length ≤ 15 := by
      have h1 := congrArg List.length hps
      rw [List.length_map, List.length_map] at h1
      have : ∀ (Ts : List Tm), (Ts.flatMap Tm.subs).length ≤ 5 * Ts.length := by
        intro Ts
        induction Ts with
        | nil => exact Nat.le_refl _
        | cons T r ih =>
          have h5 : T.subs.length ≤ 5 := by cases T <;> exact Nat.le_of_ble_eq_true rfl
          rw [List.flatMap_cons, List.length_append, List.length_cons]; omega
      have h2 := this ([T0, T1, T2].take j)
      rw [List.length_take] at h2
      simp only [List.length_cons, List.length_nil] at h2
      omega
    generalize hW : (l3, W.listOf its3 n3) :: (tl3 ++ (tl2 ++ BASE)) = NW at *
    have hWs : ∀ p ∈ tl3 ++ (tl2 ++ BASE), p ∈ NW := by rw [← hW]; exact fun p hp => .tail _ hp
    have offWC : ∀ p ∈ (I, oI) :: NW, p.1 ≠ C := by rw [← hW]; exact fcons (off4C _ (.head _)) (fcons (Nat.ne_of_gt gtl.1) (fapp (fun p hp => Nat.ne_of_gt (gt3 p hp).1) (fun p hp => off4C p (.tail _ hp))))
    have offWD : ∀ p ∈ (I, oI) :: NW, p.1 ≠ D' := by rw [← hW]; exact fcons (off4D _ (.head _)) (fcons (Nat.ne_of_gt gtl.2.1) (fapp (fun p hp => Nat.ne_of_gt (gt3 p hp).2.1) (fun p hp => off4D p (.tail _ hp))))
    have offWI : ∀ p ∈ NW, p.1 ≠ I := by rw [← hW]; exact fcons (Nat.ne_of_gt gtl.2.2.1) (fapp (fun p hp => Nat.ne_of_gt (gt3 p hp).2.2.1) off)
    have hWb : ∀ p ∈ tl2 ++ BASE, p ∈ NW := fun p hp => hWs p (List.mem_append_right _ hp)
    subst hB
    refine ⟨l3, its3, n3, NW, _, fun j' ys' nwF => Ex2 fun tlx ps2 => And4 (nwF = tlx ++ ((I, oI) :: NW)) (Paired (PairIn (PySem.strKind PySem.Challenge.rw_rg0118_01.row.prog w) (tlx ++ NW)) ys' (ps ++ ps2)) (ps2.map (·.1) = (U.subs.take j').map Tm.op) (∀ p ∈ tlx, ∀ q ∈ (I, oI) :: NW, q.1 < p.1), rfl, ⟨_, _, _, rfl⟩, V4.back hn F9' N9' (by k_mem) (by k_mem) (by rw [← hW]; (k_extra "sub9")) offWC offWD, hWb, offWI, by rw [← hW]; exact .head _, ⟨[], [], rfl, by rw [List.append_nil]; exact Paired.imp (fun _ _ x => let ⟨a, key, e1, e2, e3⟩ := x; ⟨a, key, e1, hWb _ e2, e3⟩) hys, rfl, fun _ h => nomatch h⟩, ?ql, ?qt, ?qe⟩
    case ql =>
      rintro j' ys' nwF ⟨tlx, ps2, _, h1, h2, _⟩
      have h3 := congrArg List.length h2
      rw [List.length_map, List.length_map, List.length_take] at h3
      rw [Paired.length h1, List.length_append]; omega
    case qt =>
      rintro j2 v2 ys' nwF oI2 I2 h5 tk5 dr5 mC5 E5 hj2 ⟨tlx, ps2, rfl, hys', hps2, htlx⟩ hsub5 V5 off5 hit5
      obtain ⟨T1', hT1, p, q, b, ws, rfl, hp, hq, hws, hb⟩ := Paired.get hP4 (i := j2) (a := v2) (by simpa using hj2)
      obtain ⟨a5, t5, kv5, e5, hb5, hks5, hkl5⟩ := hb.open
      cases e5
      have up5 : ∀ p ∈ tl3 ++ (tl2 ++ (D2, tupO [vp, v1, v2]) :: news), p ∈ tlx ++ (I, oI) :: NW := fun p hp => List.mem_append_right _ ((.tail _ (hWs p hp)))
      refine cv_pair rfl V5 rfl rfl rfl rfl hit5 (up5 _ hp) fun h6 tk6 V6 => ?_
      obtain ⟨oC6, hn6, N6⟩ := V6.led
      have F6 := V6.F
      have hbm := up5 _ hb5
      ((try k_fold); k_steps)
      rename_i D7 h7 F7 N7 l7
      have off6C : ∀ p ∈ (I2, oI2) :: (tlx ++ (I, oI) :: NW), p.1 ≠ C := V6.offC
      have off6D : ∀ p ∈ (I2, oI2) :: (tlx ++ (I, oI) :: NW), p.1 ≠ D' := V6.offD
      refine ⟨(D7, tupO [.str T1'.op t5, .bool true]) :: (tlx ++ (I, oI) :: NW), _, _, _, _, rfl, V6.back hn6 F7 N7 (by k_mem) (by k_mem) (by (k_extra "sub9")) ?ra ?rb, fun p hp => .tail _ hp, fcons (by (refine neN ?_; omega)) off5, (D7, tupO [.str T1'.op t5, .bool true]) :: tlx, ps2 ++ [(T1'.op, .bool true)], rfl, ?rp, ?rm, fcons (fun q hq => l7.2.2.2.mem q (List.mem_append_right _ hq)) htlx⟩
      case ra => exact fcons (off6C _ (.head _)) (fcons (by (refine neN ?_; omega)) (fun p hp => off6C p (.tail _ hp)))
      case rb => exact fcons (off6D _ (.head _)) (fcons (by (refine neN ?_; omega)) (fun p hp => off6D p (.tail _ hp)))
      case rp =>
        rw [← List.append_assoc]
        refine Paired.append (Paired.imp (fun _ _ x => let ⟨a, key, e1, e2, e3⟩ := x; ⟨a, key, e1, .tail _ e2, e3⟩) hys') (.cons ⟨D7, .str T1'.op t5, rfl, .head _, strKind_is _ _ _ _⟩ .nil)
      case rm =>
        rw [List.take_add_one, hT1, List.map_append, List.map_append, hps2]; rfl
    case qe =>
      rintro ys' nwF ⟨tlx, ps2, rfl, h1, h2, h3⟩
      refine ⟨tlx ++ NW, ?ra, fun p hp => List.mem_append_right _ ((hWb p hp)), fapp (fun p hp => Nat.ne_of_gt (h3 p hp _ (.head _))) offWI, tlx ++ ((l3, W.listOf its3 n3) :: (tl3 ++ tl2)), ps ++ ps2, by rw [← hW]; simp only [List.append_assoc, List.cons_append], h1, ?rm, ?rj, ?rz⟩
      case ra => (k_extra "sub9")
      case rm =>
        rw [List.take_of_length_le (by rw [← Paired.length hP4, Array.length_toList]; exact Nat.le_refl _)] at h2
        rw [List.map_append, hps, h2, List.take_add_one, hU, List.flatMap_append, List.map_append]
        simp only [Option.toList, List.flatMap_cons, List.flatMap_nil, List.append_nil]
      case rj =>
        have := (List.getElem?_eq_some_iff.mp hU).1
        exact this
      case rz =>
        refine fapp (fun p hp q hq => h3 p hp q (.tail _ (hWb q (List.mem_append_right _ hq)))) (fcons (fun q hq => gtl.2.2.2 q (List.mem_append_right _ hq)) (fapp (fun p hp q hq => (gt3 p hp).2.2.2 q (List.mem_append_right _ hq)) htl2))
  case ze =>
    rintro Dc ys nw hc tkc drc Fc Nc offc ltc hsub ⟨tl2, ps, rfl, hys, hps, _, htl2⟩
    have hPd : Paired (PairIn (PySem.strKind PySem.Challenge.rw_rg0118_01.row.prog w) ((Dc, LCg.lst ys) :: (tl2 ++ (D2, tupO [vp, v1, v2]) :: news))) ys.toArray.toList ps := Paired.imp (fun _ _ x => let ⟨a, key, e1, e2, e3⟩ := x; ⟨a, key, e1, .tail _ e2, e3⟩) hys
    have hlp : ps.length ≤ 1000 := by
      have h1 := congrArg List.length hps
      rw [List.length_map, List.length_map] at h1
      rw [h1]
      have h5 : ∀ T : Tm, T.subs.length ≤ 5 := fun T => by cases T <;> exact Nat.le_of_ble_eq_true rfl
      have := h5 T0
      have := h5 T1
      have := h5 T2
      simp only [List.length_cons, List.length_nil, List.take_succ_cons, List.take_zero, List.flatMap_cons, List.flatMap_nil, List.length_append]
      omega
    ((try k_fold); k_steps)
    rename_i z1 tkA d1 o1 lo1 hd1 lA z2 tkB _ _ d2 z3 o2 lo2 hs2 fs2 hi2 fi2 lB DT z4 lC z5 z6 z7 FA NA _ _ h9 tk9 dr9 F9 ln vsn nn hSn hyn N9 I1 h1 oI1 F1 N1 hI1 lI
    clear fs2 fi2 hi2 FA NA F9 N9
    have hln : @LT.lt Nat _ d2 ln := hyn (d2, o2) (by k_mem)
    have hlI : @LT.lt Nat _ ln I1 := lI.1
    have hdI : @LT.lt Nat _ d2 I1 := lI.2.2.1
    have hyn2 : ∀ q ∈ (DT, { cls := Value.type "tuple", data := Data.seq #[Value.ref d2, Value.int 0 tkB] }) :: (d1, o1) :: (Dc, LCg.lst ys) :: (tl2 ++ (D2, tupO [vp, v1, v2]) :: news), q.1 < ln := fun q hq => hyn q (List.mem_cons.mp hq |>.elim (fun e => e ▸ .head _) fun h => .tail _ (.tail _ h))
    have hnR : ∀ q ∈ news, q ∈ (DT, { cls := Value.type "tuple", data := Data.seq #[Value.ref d2, Value.int 0 tkB] }) :: (d1, o1) :: (Dc, LCg.lst ys) :: (tl2 ++ (D2, tupO [vp, v1, v2]) :: news) := fun q hq => .tail _ (.tail _ (.tail _ (List.mem_append_right _ ((.tail _ hq)))))
    generalize hREST : (DT, { cls := Value.type "tuple", data := Data.seq #[Value.ref d2, Value.int 0 tkB] }) :: (d1, o1) :: (Dc, LCg.lst ys) :: (tl2 ++ (D2, tupO [vp, v1, v2]) :: news) = REST at *
    have hK : ∀ n, n ≤ 20 → LF n ∈ ps.map (·.1) → n ≤ 2 := by rw [hps]; exact hK
    obtain ⟨m1, F1, e1, e2, e3, e4⟩ : Ex1 fun m1 => And5 (Fr _ _ h1 m1) (m1 (Str.ofString "table") = some (.ref d2)) (m1 (Str.ofString "known") = some (.ref d1)) (m1 (Str.ofString "overlap") = some (.ref ov)) (m1 (Str.ofString "k") = some (.int ((0 : Nat) : Int) tkB)) := ⟨_, F1, rfl, rfl, rfl, rfl⟩
    refine loop_ind (fun κ s' => Ex13 fun (i : Nat) (r : List Str) (a : List (Str × Str)) (k : Nat) (tk0 : Tok) (o2 : Obj) (kvs : List (Str × Value)) (tl3 : Led) (m' : Str → Option Value) (oI : Obj) (hh : Heap) (tk : Nat) (dr : Drawn) => And21 (κ = vsn.length - i) (i ≤ vsn.length) (s' = { s with heap := hh, toks := tk, drawn := dr }) (Fr _ _ hh m') (m' (Str.ofString "table") = some (.ref d2)) (m' (Str.ofString "known") = some (.ref d1)) (m' (Str.ofString "overlap") = some (.ref ov)) (m' (Str.ofString "k") = some (.int (k : Int) tk0)) (News _ _ hh ((I1, oI) :: (ln, W.listOf vsn.toArray nn) :: (d2, o2) :: (tl3 ++ REST))) (LIt oI ln i) (o2.IsDictOf (PySem.strKind PySem.Challenge.rw_rg0118_01.row.prog w) kvs) (Paired (TabP tl3) kvs a) (StrsAre (vsn.drop i) r) (a ++ asgL (ps.map (·.1)) k r = asgL (ps.map (·.1)) 0 T0.vars) ((a.map (·.1) ++ r).Nodup) (a.length + r.length ≤ 2) (k ≤ 4 * a.length) (∀ p ∈ tl3 ++ REST, p.1 ≠ I1) (∀ p ∈ tl3 ++ REST, p.1 ≠ d2) (∀ p ∈ tl3 ++ REST, p.1 ≠ ln) (∀ p ∈ tl3, ∀ q ∈ news, q.1 < p.1)) ?_ vsn.length _ ⟨0, T0.vars, [], 0, _, o2, [], [], m1, oI1, h1, _, _, by omega, by omega, rfl, F1, e1, e2, e3, e4, News_sub N1 ?zn, hI1, hs2, .nil, by simpa using hSn, rfl, ?znd, ?zlen, Nat.zero_le _, ?zo1, ?zo2, ?zo3, fun _ h => nomatch h⟩
    case zn => (rw [← hREST]; (k_extra "sub9"))
    case znd => exact vars_nodup T0 hl
    case zlen => simpa using vars_length T0 hl
    case zo1 => (rw [← hREST]; exact fcons (Nat.ne_of_lt lI.2.1) (fcons (Nat.ne_of_lt lI.2.2.2.1) (fcons (Nat.ne_of_lt lI.2.2.2.2.1) (fun p hp => Nat.ne_of_lt (lI.2.2.2.2.2.mem p hp)))))
    case zo2 => (rw [← hREST]; exact fcons (Nat.ne_of_gt lC.1) (fcons (Nat.ne_of_lt lB.1) (fcons (Nat.ne_of_lt lB.2.1) (fun p hp => Nat.ne_of_lt (lB.2.2.mem p hp)))))
    case zo3 => exact fun p hp => Nat.ne_of_lt (hyn2 p hp)
    rintro κ s' ⟨i, r, a, k, tk0, o2', kvs, tl3, m', oI, hh, tkL, dr, rfl, hi, rfl, F, e1, e2, e3, e4, N, hI, hd2, hT, hSr, hasg, hnd, hlen, hkb, ho1, ho2, ho3, hgt⟩ ih
    have hkv : kvs.length ≤ 1000 := by have := Paired.length hT; omega
    cases hx : vsn[i]? with
    | some v =>
      obtain ⟨x, tx, r', rfl, rfl, hSr'⟩ := StrsAre_at hSr hx
      (k_dflt (refine' list_turn (l := (I1, oI) :: (ln, W.listOf vsn.toArray nn) :: (d2, o2') :: (tl3 ++ REST)) (g := fun o => (I1, o) :: (ln, W.listOf vsn.toArray nn) :: (d2, o2') :: (tl3 ++ REST)) ?F ?N ?U ?hI ?ht ?hx ?_))
      case F => assumption
      case N => assumption
      case U => k_updF
      case hI => assumption
      case ht => k_mem
      case hx => simpa using hx
      intro h' oI' F' N' hI'
      clear N F hI
      (try dsimp only at N')
      ((try k_fold); k_steps)
      rename_i hA FA NA
      refine while_ind (fun n s' => Ex6 fun (k' : Nat) (tk0 : Tok) (m'' : Str → Option Value) (hh : Heap) (tk : Nat) (dr : Drawn) => And11 (s' = { s with heap := hh, toks := tk, drawn := dr }) (Fr _ _ hh m'') (m'' (Str.ofString "table") = some (.ref d2)) (m'' (Str.ofString "known") = some (.ref d1)) (m'' (Str.ofString "overlap") = some (.ref ov)) (m'' (Str.ofString "name") = some (.str x tx)) (m'' (Str.ofString "k") = some (.int (k' : Int) tk0)) (News _ _ hh ((I1, oI') :: (ln, W.listOf vsn.toArray nn) :: (d2, o2') :: (tl3 ++ REST))) (fl (ps.map (·.1)) n k' = fl (ps.map (·.1)) 3 k) (3 ≤ k' + n) (k' + n ≤ k + 3)) ?_ 3 ⟨k, _, _, _, _, _, rfl, FA, e1, e2, e3, rfl, e4, NA, rfl, by omega, by omega⟩
      clear FA NA
      rintro n s' ⟨k', tk0, m'', hh, tkW, drW, rfl, F, e1, e2, e3, e5, e4, N, hfl, hn1, hn2⟩
      have hm1 : (d1, o1) ∈ REST := by rw [← hREST]; k_mem
      ((try k_fold); k_steps)
      · rename_i hin _ hE FE NE
        rw [LF_eq, valueAt_isSome] at hin
        have hin := (storeAll_keys _ _).mp (of_decide_eq_true hin)
        have hk2 := hK k' (by omega) hin
        obtain ⟨n, rfl⟩ : ∃ n', n = n' + 1 := by
          cases n with
          | zero => exact absurd (Nat.le_trans hn1 hk2) (by decide)
          | succ m => exact ⟨m, rfl⟩
        refine ⟨n, Nat.lt_succ_self _, k' + 1, _, _, hE, _, _, rfl, FE, e1, e2, e3, e5, rfl, NE, ?_, by rw [Nat.add_right_comm]; exact hn1, by rw [Nat.add_right_comm]; exact hn2⟩
        rw [← hfl, fl_in hin]
      · rename_i hnot tkE _ _ D3 hE1 lE hE2 o3 hd3 _ hE3 FE NE
        rw [LF_eq, valueAt_isSome] at hnot
        have hnot : LF k' ∉ ps.map (·.1) := fun h => absurd ((storeAll_keys _ _).mpr h) (of_decide_eq_false hnot)
        rw [fl_out hnot] at hfl
        have hxa : x ∉ kvs.map (·.1) := by
          rw [Paired.keys hT]
          exact fun h => (List.nodup_append.mp hnd).2.2 x h x (.head _) rfl
        have hk3 := fl_max hK 3 k (by omega)
        refine ih (vsn.length - (i + 1)) _ (by have := (List.getElem?_eq_some_iff.mp hx).1; omega) ⟨i + 1, r', a ++ [(x, LF k')], k' + 1, _, o3, kvs ++ [(x, .ref D3)], (D3, tupO [.str (LF k') _]) :: tl3, _, oI', hE3, _, _, rfl, (List.getElem?_eq_some_iff.mp hx).1, rfl, FE, e1, e2, e3, rfl, News_sub NE (by (k_extra "sub9")), hI', by rw [← stored_new hxa]; exact hd3, ?zT, hSr', ?zA, ?zN, ?zL, ?zK, ?z1, ?z2, ?z3, ?z4⟩
        case zT => exact Paired.append (Paired.imp (fun _ _ h => let ⟨q, ad, t, q2, hm⟩ := h; ⟨q, ad, t, q2, .tail _ hm⟩) hT) (.cons ⟨rfl, D3, _, rfl, .head _⟩ .nil)
        case zA =>
          rw [List.append_assoc, ← hasg, asgL, ← hfl]; rfl
        case zN => simpa [List.append_assoc] using hnd
        case zL => simp at hlen ⊢; omega
        case zK => rw [List.length_append]; simp only [List.length_cons, List.length_nil]; omega
        case z1 => exact fcons (Nat.ne_of_gt lE.1) ho1
        case z2 => exact fcons (Nat.ne_of_gt lE.2.2.1) ho2
        case z3 => exact fcons (Nat.ne_of_gt lE.2.1) ho3
        case z4 => exact fcons (fun q hq => lE.2.2.2.mem q (List.mem_append_right _ ((hnR q hq)))) hgt
    | none =>
      have hi0 : vsn.length ≤ i := List.getElem?_eq_none_iff.mp hx
      rw [List.drop_eq_nil_of_le hi0] at hSr
      cases hSr
      rw [asgL, List.append_nil] at hasg
      subst hasg
      have hTab := (tabOk_of w hT)
      (k_dflt (refine' list_stop (l := (I1, oI) :: (ln, W.listOf vsn.toArray nn) :: (d2, o2') :: (tl3 ++ REST)) (r := (d2, o2') :: (tl3 ++ REST)) ?hh ?F ?N ?hm ?hI ?ht ?hx ?hs ?ho ?_))
      case hh => exact rfl
      case F => assumption
      case N => assumption
      case hm => k_mem
      case hI => assumption
      case ht => k_mem
      case hx => simpa using hx
      case hs => exact fun p hp => .tail _ (.tail _ hp)
      case ho => exact fcons (Nat.ne_of_lt hdI) ho1
      intro h' F' N'
      clear N F hI
      generalize hALL : (d2, o2') :: (tl3 ++ REST) = ALL at *
      have hna : ∀ p ∈ news, p ∈ ALL := by rw [← hALL]; exact fun p hp => .tail _ (List.mem_append_right _ ((hnR p hp)))
      have hda : (d2, o2') ∈ ALL := by rw [← hALL]; exact .head _
      have hova := hna _ hov
      have hTa : TabOk w ALL kvs (tabσ (asgL (ps.map (·.1)) 0 T0.vars)) := hTab.mono (by rw [← hALL]; exact fun p hp => .tail _ (List.mem_append_left _ hp))
      have z1 := T1.sz_le
      have z2 := T2.sz_le
      have C1 : FillC w d2 (tabσ (asgL (ps.map (·.1)) 0 T0.vars)) ALL T1 v1 := fun n' k => filled_spec w d2 o2' kvs _ hd2 lo2 T1 v1 n' (R1.mono fun p hp => k p (hna p hp)) s1 (k _ hda) (hTa.mono k)
      have C2 : FillC w d2 (tabσ (asgL (ps.map (·.1)) 0 T0.vars)) ALL T2 v2 := fun n' k => filled_spec w d2 o2' kvs _ hd2 lo2 T2 v2 n' (R2.mono fun p hp => k p (hna p hp)) s2 (k _ hda) (hTa.mono k)
      clear N1 F1 hSn hyn hys hPd hd1 hs2 offc hsub R0 R1 R2 hov ho1 ho2 ho3 hda hT hTab hTa ih
      ((try k_fold); k_steps)
      rename_i rA hA3 tkA3 drA3 tlA hRA hxA rB hB3 tkB3 drB3 tlB hRB hxB DF hF3 FF NF lF kF kN TcF kX
      have hsig : tabσ (asgL (ps.map (·.1)) 0 T0.vars) = sig T0 T1 T2 := by unfold sig; rw [hps]; rfl
      rw [hsig] at hRA hRB
      have hall : tlB ++ (tlA ++ ALL) = (tlB ++ (tlA ++ ((d2, o2') :: (tl3 ++ ((DT, { cls := Value.type "tuple", data := Data.seq #[Value.ref d2, Value.int 0 tkB] }) :: (d1, o1) :: (Dc, LCg.lst ys) :: (tl2 ++ [(D2, tupO [vp, v1, v2])])))))) ++ news := by
        rw [← hALL, ← hREST]; simp only [List.append_assoc, List.cons_append, List.nil_append]
      rw [hall] at kN lF hRB
      refine hret _ _ _ _ _ kF kN ⟨_, DF, _, _, rfl, rfl, hRA.mono (fun p hp => by rw [← hall]; exact List.mem_append_right _ hp), hRB, ?_, lF⟩
      refine fapp (fun p hp q hq => hxB p hp q (List.mem_append_right _ ((hna q hq)))) (fapp (fun p hp q hq => hxA p hp q (hna q hq)) (fcons (fun q hq => lB.2.2.mem q (List.mem_append_right _ ((.tail _ hq)))) (fapp hgt (fcons (fun q hq => lC.2.2.2.mem q (List.mem_append_right _ ((.tail _ hq)))) (fcons (fun q hq => lA.2.mem q (List.mem_append_right _ ((.tail _ hq)))) (fcons (fun q hq => ltc q (.tail _ hq)) (fapp (fun p hp q hq => htl2 p hp q (.tail _ hq)) (fcons lD2.mem (fun _ h => nomatch h)))))))))

end

section
set_option maxHeartbeats 4000000
open PyProof.Rows.LCg
section
variable {prog : Program} {w : World} {A : Around} {E : Value → Shared → Prop} {h₀ : Heap} {L C D : Addr} {m mC : Str → Option Value} {ys : List Value} {s : Shared} {env : Env}
theorem cv_gen {e : PySem.Expr} {d : Nat} {pos : Pos} {cenv : Env} {body : Value → Sem Fin} {I : Addr} {n : Nat} {R : Result → Shared → Prop} (Inv : Nat → Shared → Prop)
    (hden : (model prog w).den (.compLoop e d (.ref I) (.ref D) cenv) = (compTurn e d (.ref I) (.ref D) cenv).onRaise (fun x => do noteFrame x cenv; theTreesLotGoes x))
    (hund : A.under (.compLoop e d (.ref I) (.ref D) cenv) = A)
    (hturn : compTurn e d (.ref I) (.ref D) cenv = standAt pos >>= fun _ => pyNext (.ref I) >>= fun r => match r with
      | none => pure (.done .next)
      | some v => body v)
    (hq : (Code.compLoop e d (.ref I) (.ref D) cenv).quiet = true)
    (step : ∀ i s' (E' : Value → Shared → Prop), i < n → Inv i s' → wpAny (model prog w) A (pyNext (.ref I)) (fun r s₂ => ∃ v, r = some v ∧ wpAny (model prog w) A (body v) (fun fin s₃ => fin = .again (.compLoop e d (.ref I) (.ref D) cenv) ∧ Inv (i + 1) s₃) E' s₂) E' s')
    (stop : ∀ s' (E' : Value → Shared → Prop), Inv n s' → wpAny (model prog w) A (pyNext (.ref I)) (fun r s₂ => r = none ∧ R (.ok .next) s₂) E' s')
    (h0 : Inv 0 s) : codeAny (model prog w) A (.compLoop e d (.ref I) (.ref D) cenv) R s := by
  refine codeAny_loop hq (fun k s' => Ex1 fun i => And3 (i ≤ n) (k = n + 1 - i) (Inv i s')) ?_ (n + 1) ⟨0, Nat.zero_le _, rfl, h0⟩
  rintro k s' ⟨i, hi, rfl, hI⟩
  rw [hden, hund]
  refine wpAny_noted ?_
  rw [hturn]
  refine wpAny_bind (wpAny_standAt (wpAny_bind ?_))
  by_cases hlt : i < n
  · refine wpAny_mono (step i s' _ hlt hI) ?_ fun _ _ x => x
    rintro _ s₂ ⟨v, rfl, h⟩
    refine wpAny_mono h ?_ fun _ _ x => x
    rintro _ s₃ ⟨rfl, h3⟩
    exact ⟨rfl, n + 1 - (i + 1), by omega, i + 1, hlt, rfl, h3⟩
  · obtain rfl : i = n := Nat.le_antisymm hi (Nat.not_lt.mp hlt)
    refine wpAny_mono (stop s' _ hI) ?_ fun _ _ x => x
    rintro _ s₂ ⟨rfl, h⟩
    exact wpAny_pure h

noncomputable def CvE (h₀ : Heap) (L : Addr) (m : Str → Option Value) (C D : Addr) (zl kept : Led) (ys : List Value) (J : List Value → Led → Prop) (s : Shared) (y : Value) (s' : Shared) : Prop :=
  Ex5 fun nw' h' tk' dr' mC' => And5 (s' = { s with heap := h', toks := tk', drawn := dr' }) (CV h₀ L m C D mC' ys (zl ++ nw') h') (∀ p ∈ kept, p ∈ nw') (∀ q ∈ zl, ∀ p ∈ nw', p.1 ≠ q.1) (J (ys ++ [y]) nw')
noncomputable def CvS (h₀ : Heap) (L : Addr) (m : Str → Option Value) (C D : Addr) (zl kept : Led) (ys : List Value) (J : List Value → Led → Prop) (s : Shared) (s' : Shared) : Prop :=
  Ex5 fun nw' h' tk' dr' mC' => And5 (s' = { s with heap := h', toks := tk', drawn := dr' }) (CV h₀ L m C D mC' ys (zl ++ nw') h') (∀ p ∈ kept, p ∈ nw') (∀ q ∈ zl, ∀ p ∈ nw', p.1 ≠ q.1) (J ys nw')

theorem compK_plainT (_ : Fr h₀ L s.heap m) {elt it : PySem.Expr} {xn : Str} {px : Pos} {scope : Scope} {pos : Pos} {cl : List (Str × Addr)} {Q : Value → Shared → Prop}
    (hh : A.handled = none) (hclos : closureFor scope env = pure cl) (hcell : ∀ y ∈ scope.names, y.2 ≠ .cell) (hkind : scope.kind = .function) (hnames : ∀ y ∈ scope.names, y.2 = .local → scope.names.lookup y.1 = some .local)
    (hs : ∀ x, foldedSetIterable it env x = pure x) (hxn : ∀ C, (compEnvC scope cl C env).kindOf xn = some .local)
    (h : wpAny (model prog w) A (eval it env) (fun xv s₁ => Hold (Ex5 fun ax vs l kept (J : Nat → List Value → Led → Prop) => And10 (xv = .ref ax) (Fr h₀ L s₁.heap m) (News h₀ L s₁.heap l) ((ax, tupO vs) ∈ kept) (∀ p ∈ kept, p ∈ l) (vs.length ≤ 1000) (J 0 [] l) (∀ i ys nw, J i ys nw → ys.length ≤ i) (∀ i v ys nw zl C D h tk dr (mC : Str → Option Value) (E' : Value → Shared → Prop), vs[i]? = some v → J i ys nw → (∀ p ∈ kept, p ∈ nw) → CV h₀ L m C D (fun y => if y = xn then some v else mC y) ys (zl ++ nw) h → (∀ q ∈ zl, ∀ p ∈ nw, p.1 ≠ q.1) →
        wpAny (model prog w) A (eval elt (compEnvC scope cl C env)) (CvE h₀ L m C D zl kept ys (J (i + 1)) s₁) E' { s₁ with heap := h, toks := tk, drawn := dr }) (∀ D ys nw h tk dr, Fr h₀ L h m → News h₀ L h ((D, lst ys) :: nw) → (∀ p ∈ nw, p.1 ≠ D) → (∀ p ∈ l, p.1 < D) → (∀ p ∈ kept, p ∈ nw) → J vs.length ys nw → Q (.ref D) { s₁ with heap := h, toks := tk, drawn := dr }))) E s) :
    wpAny (model prog w) A (eval (.ListComp elt [⟨PySem.Expr.Name xn px, it, [], 0⟩] scope pos) env) Q E s := by
  rw [eval_ListComp]
  refine wpAny_comprehension_free (use := none) rfl hs hclos hkind hnames (wpAny_mono h (fun xv s₁ h₁ => ?_) fun _ _ e => e)
  obtain ⟨ax, vs, l, kept, J, rfl, F, N, hm, hkl, hsz, hJ, hlen, hb, hQ⟩ := h₁
  have hax := N _ (hkl _ hm)
  have hl : s₁.heap.IsTuple ax vs.toArray := ⟨_, hax.1, rfl, 0, rfl⟩
  have hlt : ax < s₁.heap.objs.size := Heap.lt_size hax.1
  refine wpAny_pyIter_tuple hl ?_
  generalize hH : s₁.heap.push { cls := .type "tuple_iterator", data := .fields #[.ref ax, .int 0 0] } = H
  have up : ∀ b o, s₁.heap.get? b = some o → H.get? b = some o := fun b o e => hH ▸ Heap.get?_push_of_some _ e
  have hIt : H.IsTupleIter s₁.heap.objs.size ax 0 := ⟨_, hH ▸ Heap.get?_push_size _ rfl, rfl, rfl⟩
  have hsz' : H.objs.size = s₁.heap.objs.size + 1 := by rw [← hH, Heap.size_push]
  have fr0 : h₀.get? s₁.heap.objs.size = none := by
    cases e : h₀.get? s₁.heap.objs.size with
    | none => rfl
    | some o' => exact absurd (Heap.lt_size (F.keep _ o' e)) (Nat.lt_irrefl _)
  refine comp_open (s₂ := { s₁ with heap := H }) (fun ys nw => (∀ p ∈ kept, p ∈ nw) ∧ J vs.length ys nw) (F.keeps up) (News.grown N up) (by show _ < H.objs.size; rw [hsz']; exact Nat.lt_succ_self _) hcell hkind (fun s' Q' E' k q => wpAny_pyIter_tupleiter (hIt.at fun o e => k _ o e) q) (fun C D hC tk V hCI hDI k => ?_) (fun D ys nw hD tk dr F' N' o' lt' fin => hQ D ys nw hD tk dr F' N' o' lt' fin.1 fin.2)
  have hoffI : ∀ p ∈ l, p.1 ≠ s₁.heap.objs.size := fun p hp => Nat.ne_of_lt (Heap.lt_size (N p hp).1)
  have W := Walks.tuple (prog := prog) (w := w) hh s₁.heap.objs.size ax (Nat.ne_of_lt hlt) vs.toArray
  have hIL : L ≠ s₁.heap.objs.size := Nat.ne_of_lt F.ns.lt
  refine cv_gen (s := { s₁ with heap := hC, toks := tk }) (pos := it.pos) (body := fun v => letOwnedTupleGo (PySem.Expr.Name xn px) (.ref s₁.heap.objs.size) v >>= fun _ => assign (PySem.Expr.Name xn px) (compEnvC scope cl C env) v >>= fun _ =>
        (eval elt (compEnvC scope cl C env) >>= fun x => call (.builtin "list.append") [.ref D, x] >>= fun _ => pure ()) >>= fun _ => again (.compLoop (.ListComp elt [⟨PySem.Expr.Name xn px, it, [], 0⟩] scope pos) 0 (.ref s₁.heap.objs.size) (.ref D) (compEnvC scope cl C env))) (n := vs.length)
    (fun i s' => Ex7 fun ys nw h tk dr mC oI => And6 (s' = { s₁ with heap := h, toks := tk, drawn := dr }) (CV h₀ L m C D mC ys ((s₁.heap.objs.size, oI) :: nw) h) (h.IsTupleIter s₁.heap.objs.size ax i) (∀ p ∈ kept, p ∈ nw) (∀ p ∈ nw, p.1 ≠ s₁.heap.objs.size) (J i ys nw)) rfl rfl rfl rfl ?st ?sp ?s0
  case s0 =>
    obtain ⟨oI, heI, _⟩ := hIt.at fun o e => k _ o e
    exact ⟨[], l, hC, _, _, _, oI, rfl, V.add heI (Ne.symm hCI) (Ne.symm hDI) (Ne.symm hIL) fr0, hIt.at fun o e => k _ o e, hkl, hoffI, hJ⟩
  case st =>
    rintro i _ E' hi ⟨ys, nw, h, tk', dr, mC, oI, rfl, V', hit, hk', hoff, hJ'⟩
    have hv : vs.toArray[i]? = some vs[i] := by simp [hi]
    have htt := (V'.N _ (List.mem_cons_of_mem _ (hk' _ hm))).1
    refine W.item i _ _ _ (by simpa using hi) ⟨hit, ⟨_, htt, rfl, 0, rfl⟩⟩ fun v h₂ tk₂ hP hst₂ hk₂ => ?_
    have hv' : vs[i]? = some v := by simpa using hP
    refine ⟨v, rfl, ?_⟩
    have V₂ := (V'.sub (news' := nw) fun p hp => .tail _ hp).but (fun b o hb e => hk₂ b o (by simpa using hb) e) hCI hDI hIL fr0 hoff
    obtain ⟨oI₂, heI₂, _⟩ := hst₂.1
    have V₃ := V₂.add heI₂ (Ne.symm hCI) (Ne.symm hDI) (Ne.symm hIL) fr0
    refine wpAny_bind ?_
    unfold letOwnedTupleGo
    refine wpAny_pure (wpAny_bind ?_)
    refine cv_store (s := { s₁ with heap := h₂, toks := tk₂, drawn := dr }) V₃ rfl hkind (hxn C) fun h₃ V₄ => ?_
    refine wpAny_bind (wpAny_bind (wpAny_mono (hb i v ys nw [(s₁.heap.objs.size, oI₂)] C D h₃ _ dr mC E' hv' hJ' hk' V₄ (fun q hq p hp => by rw [List.mem_singleton.mp hq]; exact hoff p hp)) (fun y s₄ h₄ => ?_) fun _ _ e => e))
    obtain ⟨nw', h', tk'', dr', mC', rfl, V₅, hk₅, ho₅, hJ₅⟩ := h₄
    refine wpAny_bind (cv_append (s := { s₁ with heap := h', toks := tk'', drawn := dr' }) V₅ (by have := hlen _ _ _ hJ'; rw [sizeLine_eq]; omega) fun h'' V₆ => wpAny_pure (wpAny_pure ⟨rfl, ys ++ [y], nw', h'', tk'', dr', mC', oI₂, rfl, V₆, ?_, hk₅, fun p hp => ho₅ _ (.head _) p hp, hJ₅⟩))
    obtain ⟨o', e', r'⟩ := hst₂.1
    rw [heI₂] at e'; cases e'
    exact ⟨oI₂, (V₆.N _ (.head _)).1, r'⟩
  case sp =>
    rintro _ E' ⟨ys, nw, h, tk', dr, mC, oI, rfl, V', hit, hk', hoff, hJ'⟩
    have htt := (V'.N _ (List.mem_cons_of_mem _ (hk' _ hm))).1
    refine W.done _ _ _ (by simpa using ⟨hit, ⟨_, htt, rfl, 0, rfl⟩⟩) fun h₂ tk₂ hk₂ => ⟨rfl, ?_⟩
    have V₂ := (V'.sub (news' := nw) fun p hp => .tail _ hp).but (fun b o hb e => hk₂ b o (by simpa using hb) e) hCI hDI hIL fr0 hoff
    exact ⟨ys, nw, h₂, tk₂, dr, mC, rfl, rfl, V₂, hk', hJ'⟩
end

end

section
set_option maxHeartbeats 4000000
open PyProof.Rows.LCg PySem.F
noncomputable abbrev zipO (b : Nat) (f : Value) : Obj := { cls := .type "zip", dict := none, data := .fields #[f, .bool false, .bool false, .ref (b + 2), .ref (b + 3)], slots := #[] }
structure ZAt (h : Heap) (b t1 t2 : Nat) (i : Nat) (f : Value) : Prop where
  z : h.get? (b + 4) = some (zipO b f)
  TI : IsPair h (b + 2) (.ref b) (.ref (b + 1))
  TO : ∃ x y, IsPair h (b + 3) x y
  i1 : IsTupIter h b t1 i
  i2 : IsTupIter h (b + 1) t2 i
noncomputable def Else5 (b : Nat) (h h' : Heap) : Prop := ∀ (c : Nat) o, (c < b ∨ b + 4 < c) → h.get? c = some o → h'.get? c = some o
theorem Else5.of {b : Nat} {h h' h'' : Heap} {c : Nat} (k : Else5 b h h') (s : Heap.ExtBut c h' h'') (hc : b ≤ c ∧ c ≤ b + 4) : Else5 b h h'' := by
  intro d o hd e
  have h1 : @Ne Nat d c := by rcases hd with hd | hd <;> omega
  exact s d o h1 (k d o hd e)
theorem ln_NG_28 : True := by
  k_with "ad9" => first | omega | (refine neN ?_; omega) | (refine ltN ?_; omega)
  exact True.intro
section
variable {prog : Program} {w : World} {A : Around} {E : Value → Shared → Prop} {s : Shared}
theorem IsTupIter.ext {h h' : Heap} {a t c : Nat} {i : Nat} (x : IsTupIter h a t i) (s : Heap.ExtBut c h h') (hc : a ≠ c) : IsTupIter h' a t i := IsTupIter.at' x fun o e => s a o hc e
theorem IsTup.ext {h h' : Heap} {t c : Nat} {xs : Array Value} (x : IsTup h t xs) (s : Heap.ExtBut c h h') (hc : t ≠ c) : IsTup h' t xs := let ⟨o, e, r⟩ := x; ⟨o, s t o hc e, r⟩
theorem zipT_item {b t1 t2 : Nat} {i : Nat} {xs ys : Array Value} {x y : Value} {Q : Option Value → Shared → Prop} (Z : ZAt s.heap b t1 t2 i .none) (l1 : t1 < b ∨ b + 4 < t1) (l2 : t2 < b ∨ b + 4 < t2) (hl1 : IsTup s.heap t1 xs) (hl2 : IsTup s.heap t2 ys) (hx : xs[i]? = some x) (hy : ys[i]? = some y)
    (hQ : ∀ (T : Nat) h', ZAt h' b t1 t2 (i + 1) (rawInt T) → IsPair h' T x y → s.heap.objs.size ≤ T → Else5 b s.heap h' → Q (some (.ref T)) { s with heap := h' }) :
    wpAny (model prog w) A (pyNext (.ref (b + 4))) Q E s := by
  obtain ⟨hz, hTI, ⟨u, v, hTO⟩, h1, h2⟩ := Z
  have hT : s.TypeIs (.ref (b + 4)) "zip" := ⟨_, hz, rfl⟩
  unfold pyNext
  refine wpAny_bind (wpAny_attempt (wpAny_callSpecial?_slot (name := Str.ofString "__next__") hT slot_zip_next (wpAny_call_entry slot_zip_next hT entry_zip_next ?_ (args_zip_next_1 _))))
  show wpAny _ _ (field (.ref (b + 4)) 2 >>= _) _ _ _
  refine wpAny_bind (wpAny_field hz rfl (x := .bool false) rfl ?_)
  show wpAny _ _ (field (.ref (b + 4)) 3 >>= _) _ _ _
  refine wpAny_bind (wpAny_field hz rfl (x := .ref (b + 2)) rfl ?_)
  refine wpAny_bind (wpAny_seqItems hTI rfl ?_)
  show wpAny _ _ (Builtin.SmallTypes.ownedTupleIsFree (.ref (b + 4)) >>= _) _ _ _
  refine wpAny_bind ?_
  unfold Builtin.SmallTypes.ownedTupleIsFree
  refine wpAny_bind (wpAny_field hz rfl (x := .none) rfl (wpAny_pure ?_))
  simp only [if_true]
  refine wpAny_bind (wpAny_rule (wpAny_bind (wpAny_field hz rfl (x := .ref (b + 3)) rfl ?_)))
  refine wpAny_bind (wpAny_setField_rec hz (by simp) fun k₁ z₁ s₁ => ?_)
  replace z₁ : k₁.get? (b + 4) = some (zipO b .ellipsis) := z₁
  have e₁ : Else5 b s.heap k₁ := Else5.of (fun _ _ _ e => e) s₁.extBut (by constructor <;> k_extra "ad9")
  refine wpAny_bind ?_
  simp only [List.zipIdx_cons, List.zipIdx_nil, List.forIn_cons, List.forIn_nil]
  refine wpAny_bind (wpAny_bind (wpAny_onRaise ?_))
  show wpAny _ _ (Builtin.SmallTypes.nextOf (.ref b) >>= _) _ _ _
  refine wpAny_bind (nextOf_tuple_item (s := { s with heap := k₁ }) (IsTupIter.ext h1 s₁.extBut (by k_extra "ad9")) (IsTup.ext hl1 s₁.extBut (by k_extra "ad9")) hx fun k₂ a₂ s₂ => wpAny_pure ?_)
  have e₂ : Else5 b s.heap k₂ := e₁.of s₂.extBut (by constructor <;> k_extra "ad9")
  have TO₂ : IsPair k₂ (b + 3) u v := s₂.extBut _ _ (by k_extra "ad9") (s₁.extBut _ _ (by k_extra "ad9") hTO)
  refine wpAny_bind (wpAny_seqItems TO₂ rfl ?_)
  refine wpAny_bind (wpAny_updateSeq_pair TO₂ fun k₃ TO₃ s₃ => ?_)
  replace TO₃ : IsPair k₃ (b + 3) x v := TO₃
  have e₃ : Else5 b s.heap k₃ := e₂.of s₃.extBut (by constructor <;> k_extra "ad9")
  refine wpAny_bind (wpAny_letGo (wpAny_pure ?_))
  refine wpAny_bind (wpAny_bind (wpAny_onRaise ?_))
  show wpAny _ _ (Builtin.SmallTypes.nextOf (.ref (b + 1)) >>= _) _ _ _
  have b₃ : IsTupIter k₃ (b + 1) t2 i := IsTupIter.ext (IsTupIter.ext (IsTupIter.ext h2 s₁.extBut (by k_extra "ad9")) s₂.extBut (by k_extra "ad9")) s₃.extBut (by k_extra "ad9")
  have w₃ : IsTup k₃ t2 ys := let ⟨o, e, r⟩ := hl2; ⟨o, e₃ _ _ l2 e, r⟩
  refine wpAny_bind (nextOf_tuple_item (s := { s with heap := k₃ }) b₃ w₃ hy fun k₄ b₄ s₄ => wpAny_pure ?_)
  have e₄ : Else5 b s.heap k₄ := e₃.of s₄.extBut (by constructor <;> k_extra "ad9")
  have TO₄ : IsPair k₄ (b + 3) x v := s₄.extBut _ _ (by k_extra "ad9") TO₃
  refine wpAny_bind (wpAny_seqItems TO₄ rfl ?_)
  refine wpAny_bind (wpAny_updateSeq_pair TO₄ fun k₅ TO₅ s₅ => ?_)
  replace TO₅ : IsPair k₅ (b + 3) x y := TO₅
  have e₅ : Else5 b s.heap k₅ := e₄.of s₅.extBut (by constructor <;> k_extra "ad9")
  refine wpAny_bind (wpAny_letGo (wpAny_pure (wpAny_pure ?_)))
  refine wpAny_bind (wpAny_seqItems TO₅ rfl ?_)
  refine wpAny_bind (wpAny_newTuple ?_)
  have z₅ : k₅.get? (b + 4) = some (zipO b .ellipsis) := s₅.extBut _ _ (by k_extra "ad9") (s₄.extBut _ _ (by k_extra "ad9") (s₃.extBut _ _ (by k_extra "ad9") (s₂.extBut _ _ (by k_extra "ad9") z₁)))
  have TI₅ : IsPair k₅ (b + 2) (.ref b) (.ref (b + 1)) := s₅.extBut _ _ (by k_extra "ad9") (s₄.extBut _ _ (by k_extra "ad9") (s₃.extBut _ _ (by k_extra "ad9") (s₂.extBut _ _ (by k_extra "ad9") (s₁.extBut _ _ (by k_extra "ad9") hTI))))
  have a₅ : IsTupIter k₅ b t1 (i + 1) := IsTupIter.ext (IsTupIter.ext (IsTupIter.ext a₂ s₃.extBut (by k_extra "ad9")) s₄.extBut (by k_extra "ad9")) s₅.extBut (by k_extra "ad9")
  have b₅ : IsTupIter k₅ (b + 1) t2 (i + 1) := IsTupIter.ext b₄ s₅.extBut (by k_extra "ad9")
  have hsz : k₅.objs.size = s.heap.objs.size := by rw [s₅.1, s₄.1, s₃.1, s₂.1, s₁.1]
  have zlt : b + 4 < k₅.objs.size := Heap.lt_size z₅
  show wpAny _ _ (Builtin.SmallTypes.ownedTupleHandOut (.ref (b + 4)) (.ref k₅.objs.size) >>= _) _ _ _
  refine wpAny_bind ?_
  unfold Builtin.SmallTypes.ownedTupleHandOut
  refine wpAny_bind (wpAny_setField_rec (s := { s with heap := k₅.push { cls := .type "tuple", data := .seq #[x, y] } }) (Heap.get?_push_of_some _ z₅) (by simp) fun k₇ z₇ s₇ => ?_)
  replace z₇ : k₇.get? (b + 4) = some (zipO b (rawInt k₅.objs.size)) := z₇
  refine wpAny_setField_rec (s := { s with heap := k₇ }) z₇ (by simp) fun k₈ z₈ s₈ => ?_
  replace z₈ : k₈.get? (b + 4) = some (zipO b (rawInt k₅.objs.size)) := z₈
  have up : ∀ c o, c ≠ b + 4 → k₅.get? c = some o → k₈.get? c = some o := fun c o c1 e => s₈.extBut _ _ c1 (s₇.extBut _ _ c1 (Heap.get?_push_of_some _ e))
  have T₈ : IsPair k₈ k₅.objs.size x y := s₈.extBut _ _ (Nat.ne_of_gt zlt) (s₇.extBut _ _ (Nat.ne_of_gt zlt) (Heap.get?_push_size _ rfl))
  refine wpAny_pure ⟨_, rfl, ?_⟩
  exact wpAny_pure (hQ k₅.objs.size k₈ ⟨z₈, up _ _ (by k_extra "ad9") TI₅, ⟨x, y, up _ _ (by k_extra "ad9") TO₅⟩, IsTupIter.at' a₅ fun o e => up _ _ (by k_extra "ad9") e, IsTupIter.at' b₅ fun o e => up _ _ (by k_extra "ad9") e⟩ T₈ (by rw [hsz]; exact Nat.le_refl _) fun c o hc e => up c o (by k_extra "ad9") (e₅ c o hc e))

theorem zipT_end {b t1 t2 : Nat} {i : Nat} {xs ys : Array Value} {Q : Option Value → Shared → Prop} (hh : A.handled = none) (Z : ZAt s.heap b t1 t2 i .none) (l1 : t1 < b ∨ b + 4 < t1) (hl1 : IsTup s.heap t1 xs) (hx : xs[i]? = none)
    (hQ : ∀ h', Else5 b s.heap h' → Q none { s with heap := h' }) :
    wpAny (model prog w) A (pyNext (.ref (b + 4))) Q E s := by
  obtain ⟨hz, hTI, ⟨u, v, hTO⟩, h1, h2⟩ := Z
  have hT : s.TypeIs (.ref (b + 4)) "zip" := ⟨_, hz, rfl⟩
  unfold pyNext
  refine wpAny_bind (wpAny_attempt (wpAny_callSpecial?_slot (name := Str.ofString "__next__") hT slot_zip_next (wpAny_call_entry slot_zip_next hT entry_zip_next ?_ (args_zip_next_1 _))))
  show wpAny _ _ (field (.ref (b + 4)) 2 >>= _) _ _ _
  refine wpAny_bind (wpAny_field hz rfl (x := .bool false) rfl ?_)
  show wpAny _ _ (field (.ref (b + 4)) 3 >>= _) _ _ _
  refine wpAny_bind (wpAny_field hz rfl (x := .ref (b + 2)) rfl ?_)
  refine wpAny_bind (wpAny_seqItems hTI rfl ?_)
  show wpAny _ _ (Builtin.SmallTypes.ownedTupleIsFree (.ref (b + 4)) >>= _) _ _ _
  refine wpAny_bind ?_
  unfold Builtin.SmallTypes.ownedTupleIsFree
  refine wpAny_bind (wpAny_field hz rfl (x := .none) rfl (wpAny_pure ?_))
  simp only [if_true]
  refine wpAny_bind (wpAny_rule (wpAny_bind (wpAny_field hz rfl (x := .ref (b + 3)) rfl ?_)))
  refine wpAny_bind (wpAny_setField_rec hz (by simp) fun k₁ z₁ s₁ => ?_)
  replace z₁ : k₁.get? (b + 4) = some (zipO b .ellipsis) := z₁
  have e₁ : Else5 b s.heap k₁ := Else5.of (fun _ _ _ e => e) s₁.extBut (by constructor <;> k_extra "ad9")
  refine wpAny_bind ?_
  simp only [List.zipIdx_cons, List.zipIdx_nil, List.forIn_cons, List.forIn_nil]
  refine wpAny_bind (wpAny_bind (wpAny_onRaise ?_))
  show wpAny _ _ (Builtin.SmallTypes.nextOf (.ref b) >>= _) _ _ _
  refine wpAny_bind (nextOf_tuple_end (s := { s with heap := k₁ }) hh (IsTupIter.ext h1 s₁.extBut (by k_extra "ad9")) (IsTup.ext hl1 s₁.extBut (by k_extra "ad9")) hx fun k₂ e s₂ _ he => ?_)
  obtain ⟨oe, hoe, hce⟩ := he
  have z₂ : k₂.get? (b + 4) = some (zipO b .ellipsis) := s₂ _ _ (by k_extra "ad9") z₁
  have hez : e ≠ b + 4 := fun q => by subst q; rw [z₂] at hoe; cases hoe; simp at hce
  have e₂ : Else5 b s.heap k₂ := e₁.of s₂ (by constructor <;> k_extra "ad9")
  refine wpAny_setField_rec (s := { s with heap := k₂ }) z₂ (by simp) fun k₃ _ s₃ => ?_
  refine wpAny_bind (wpAny_isInstance (T := "StopIteration") (b := true) ⟨oe, s₃.extBut _ _ hez hoe, hce⟩ isSubtype_stop ?_)
  exact wpAny_pure (hQ k₃ (e₂.of s₃.extBut (by constructor <;> k_extra "ad9")))

theorem zipT_go {elts : List PySem.Expr} {x1 : Nat} {pos : Pos} {b t1 t2 T : Nat} {i : Nat} {Q : Unit → Shared → Prop} (Z : ZAt s.heap b t1 t2 i (rawInt T))
    (hQ : ∀ h', ZAt h' b t1 t2 i .none → Else5 b s.heap h' → Q () { s with heap := h' }) :
    wpAny (model prog w) A (letOwnedTupleGo (.Tuple elts x1 pos) (.ref (b + 4)) (.ref T)) Q E s :=
  wpAny_letOwnedTupleGo_zip Z.z fun h' hz' hs' => hQ h' ⟨hz', hs'.extBut _ _ (by k_extra "ad9") Z.TI, let ⟨x, y, q⟩ := Z.TO; ⟨x, y, hs'.extBut _ _ (by k_extra "ad9") q⟩, IsTupIter.ext Z.i1 hs'.extBut (by k_extra "ad9"), IsTupIter.ext Z.i2 hs'.extBut (by k_extra "ad9")⟩ (Else5.of (fun _ _ _ e => e) hs'.extBut (by constructor <;> k_extra "ad9"))

noncomputable abbrev zp1 (h : Heap) (l1 : Nat) : Heap := h.push { cls := .type "tuple_iterator", data := .fields #[.ref l1, .int 0 0] }
noncomputable abbrev zp2 (h : Heap) (l1 l2 : Nat) : Heap := zp1 (zp1 h l1) l2
noncomputable abbrev zp3 (h : Heap) (l1 l2 : Nat) : Heap := (zp2 h l1 l2).push { cls := .type "tuple", data := .seq #[.ref h.objs.size, .ref (zp1 h l1).objs.size] }
noncomputable abbrev zp4 (h : Heap) (l1 l2 : Nat) : Heap := (zp3 h l1 l2).push { cls := .type "tuple", data := .seq #[.none, .none] }
noncomputable abbrev zp5 (h : Heap) (l1 l2 : Nat) : Heap := (zp4 h l1 l2).push { cls := .type "zip", data := .fields #[.none, .bool false, .bool false, .ref (zp2 h l1 l2).objs.size, .ref (zp3 h l1 l2).objs.size] }
theorem zp_facts (h : Heap) (l1 l2 : Nat) : (zp4 h l1 l2).objs.size = h.objs.size + 4 ∧ ZAt (zp5 h l1 l2) h.objs.size l1 l2 0 .none ∧ (∀ c o, h.get? c = some o → (zp5 h l1 l2).get? c = some o) := by
  have q1 : (zp1 h l1).objs.size = h.objs.size + 1 := Heap.size_push ..
  have q2 : (zp2 h l1 l2).objs.size = h.objs.size + 2 := by rw [Heap.size_push, q1]
  have q3 : (zp3 h l1 l2).objs.size = h.objs.size + 3 := by rw [Heap.size_push, q2]
  have q4 : (zp4 h l1 l2).objs.size = h.objs.size + 4 := by rw [Heap.size_push, q3]
  have g5 : (zp5 h l1 l2).get? (zp4 h l1 l2).objs.size = some _ := Heap.get?_push_size _ rfl
  have g4 : (zp5 h l1 l2).get? (zp3 h l1 l2).objs.size = some _ := Heap.get?_push_of_some _ (Heap.get?_push_size _ rfl)
  have g3 : (zp5 h l1 l2).get? (zp2 h l1 l2).objs.size = some _ := Heap.get?_push_of_some _ (Heap.get?_push_of_some _ (Heap.get?_push_size _ rfl))
  have g2 : (zp5 h l1 l2).get? (zp1 h l1).objs.size = some _ := Heap.get?_push_of_some _ (Heap.get?_push_of_some _ (Heap.get?_push_of_some _ (Heap.get?_push_size _ rfl)))
  have g1 : (zp5 h l1 l2).get? h.objs.size = some _ := Heap.get?_push_of_some _ (Heap.get?_push_of_some _ (Heap.get?_push_of_some _ (Heap.get?_push_of_some _ (Heap.get?_push_size _ rfl))))
  rw [q4, q2, q3] at g5
  rw [q2, q1] at g3
  rw [q3] at g4
  rw [q1] at g2
  exact ⟨q4, ⟨g5, g3, ⟨_, _, g4⟩, ⟨_, g1, rfl, rfl⟩, ⟨_, g2, rfl, rfl⟩⟩, fun c o e => Heap.get?_push_of_some _ (Heap.get?_push_of_some _ (Heap.get?_push_of_some _ (Heap.get?_push_of_some _ (Heap.get?_push_of_some _ e))))⟩
theorem meets_zipT_new (l1 l2 : Nat) (xs ys : Array Value) :
    Meets (Builtin.«zip.__new__» ⟨[.type "zip", .ref l1, .ref l2], []⟩) (fun _ R s => IsTup s.heap l1 xs ∧ IsTup s.heap l2 ys ∧
      ∀ h', ZAt h' s.heap.objs.size l1 l2 0 .none → (∀ c o, s.heap.get? c = some o → h'.get? c = some o) → R (.ok (.ret (.ref (s.heap.objs.size + 4)))) { s with heap := h' }) :=
  .of_wp fun prog w A R s h => by
    obtain ⟨hp, g, d, tk, os⟩ := s; obtain ⟨hl1, hl2, h⟩ := h
    have hsub := sub_zip
    have hL1 : Heap.IsTuple (Shared.heap ⟨hp, g, d, tk, os⟩) l1 xs := hl1
    have hL2 : Heap.IsTuple (Shared.heap ⟨hp.push { cls := .type "tuple_iterator", data := .fields #[.ref l1, .int 0 0] }, g, d, tk, os⟩) l2 ys := let ⟨o, e, r⟩ := hl2; ⟨o, Heap.get?_push_of_some _ e, r⟩
    wp_walk using wpAny_pyIter_tuple hL1, wpAny_pyIter_tuple hL2
    obtain ⟨f1, f2, f3⟩ := zp_facts hp l1 l2
    refine ⟨_, rfl, ?_⟩
    show R (.ok (.ret (.ref (zp4 hp l1 l2).objs.size))) ⟨zp5 hp l1 l2, g, d, tk, os⟩
    rw [f1]
    exact h _ f2 f3
theorem call_zipT {l1 l2 : Nat} {xs ys : Array Value} {Q : Value → Shared → Prop} (hl1 : IsTup s.heap l1 xs) (hl2 : IsTup s.heap l2 ys)
    (h : ∀ h', ZAt h' s.heap.objs.size l1 l2 0 .none → (∀ c o, s.heap.get? c = some o → h'.get? c = some o) → Q (.ref (s.heap.objs.size + 4)) { s with heap := h' }) :
    wpAny (model prog w) A (call (.type "zip") [.ref l1, .ref l2]) Q E s :=
  callType_new called_zip (by decide) (typeCall_zip_2 _ _) (newCall_zip_2 _ _) (fun obj => args_object_init_3 obj _ _) entry_zip_new
    (meets_zipT_new l1 l2 xs ys) ⟨hl1, hl2, fun h' a b => ⟨⟨_, a.z, rfl⟩, h h' a b⟩⟩
end

end

section
set_option maxHeartbeats 4000000
open PyProof.Rows.LCg PySem.F
noncomputable abbrev zl5 (b : Nat) (x y : Value) (o1 o2 : Obj) : Led := [(b + 4, zipO b .none), (b + 2, tupO [.ref b, .ref (b + 1)]), (b + 3, tupO [x, y]), (b, o1), (b + 1, o2)]
theorem zl5_off {b c : Nat} {x y : Value} {o1 o2 : Obj} (h : c < b ∨ b + 4 < c) : ∀ q ∈ zl5 b x y o1 o2, c ≠ q.1 := by
  simp only [zl5, List.mem_cons, List.not_mem_nil, or_false]
  rintro _ (rfl | rfl | rfl | rfl | rfl) <;> (refine neN ?_; dsimp only; omega)
theorem zl5_on {b c : Nat} {x y : Value} {o1 o2 : Obj} (h : ∀ q ∈ zl5 b x y o1 o2, q.1 ≠ c) : c < b ∨ b + 4 < c := by
  have h4 : @Ne Nat (b + 4) c := h (b + 4, zipO b .none) (by simp [zl5])
  have h2 : @Ne Nat (b + 2) c := h (b + 2, tupO [.ref b, .ref (b + 1)]) (by simp [zl5])
  have h3 : @Ne Nat (b + 3) c := h (b + 3, tupO [x, y]) (by simp [zl5])
  have h0 : @Ne Nat b c := h (b, o1) (by simp [zl5])
  have h1 : @Ne Nat (b + 1) c := h (b + 1, o2) (by simp [zl5])
  rcases Nat.lt_or_ge c b with k | k
  · exact .inl k
  · obtain ⟨d, rfl⟩ := Nat.exists_eq_add_of_le k
    rcases d with _ | _ | _ | _ | _ | d
    · exact absurd rfl h0
    · exact absurd rfl h1
    · exact absurd rfl h2
    · exact absurd rfl h3
    · exact absurd rfl h4
    · exact .inr (Nat.add_lt_add_left (Nat.lt_of_lt_of_le (Nat.lt_succ_self 4) (Nat.le_add_left 5 d)) b)
theorem out5 {b c j : Nat} (h : c < b ∨ b + 4 < c) (hj : j ≤ 4) : @Ne Nat (b + j) c := by
  rintro rfl
  rcases h with h | h
  · exact absurd h (Nat.not_lt.mpr (Nat.le_add_right b j))
  · exact absurd (Nat.lt_of_add_lt_add_left h) (Nat.not_lt.mpr hj)
section
variable {prog : Program} {w : World} {A : Around} {E : Value → Shared → Prop} {h₀ : Heap} {L C D : Addr} {m mC : Str → Option Value} {ys : List Value} {s : Shared} {env : Env}
theorem CV.but5 {h h' : Heap} {news : Led} {b : Nat} (V : CV h₀ L m C D mC ys news h) (k : Else5 b h h') (hC : @LT.lt Nat _ C b ∨ @LT.lt Nat _ (b + 4) C) (hD : @LT.lt Nat _ D b ∨ @LT.lt Nat _ (b + 4) D) (hL : @LT.lt Nat _ L b) (h0 : ∀ c : Nat, b ≤ c → h₀.get? c = none)
    (off : ∀ p ∈ news, @LT.lt Nat _ p.1 b ∨ @LT.lt Nat _ (b + 4) p.1) : CV h₀ L m C D mC ys news h' :=
  ⟨⟨V.F.ns.at' fun o e => k L o (.inl hL) e, fun c o e => k c o (by
      have h1 : ¬ b ≤ c := fun hb => by rw [h0 c hb] at e; cases e
      exact .inl (Nat.lt_of_not_le h1)) (V.F.keep c o e), V.F.above⟩, fun p hp => ⟨k _ _ (off p hp) (V.N p hp).1, (V.N p hp).2⟩, V.ns.at' (fun o e => k _ o hC e), k _ _ hD V.acc, V.offC, V.offD, V.CD, V.CL, V.DL, V.C0, V.D0⟩

theorem compK_zip (_ : Fr h₀ L s.heap m) {elt it c : PySem.Expr} {xa xb : Str} {pa pb pt : Pos} {kt : Nat} {scope : Scope} {pos : Pos} {cl : List (Str × Addr)} {Q : Value → Shared → Prop}
    (hh : A.handled = none) (hclos : closureFor scope env = pure cl) (hcell : ∀ y ∈ scope.names, y.2 ≠ .cell) (hkind : scope.kind = .function) (hnames : ∀ y ∈ scope.names, y.2 = .local → scope.names.lookup y.1 = some .local)
    (hs : ∀ x, foldedSetIterable it env x = pure x) (hxa : ∀ C, (compEnvC scope cl C env).kindOf xa = some .local) (hxb : ∀ C, (compEnvC scope cl C env).kindOf xb = some .local)
    (h : wpAny (model prog w) A (eval it env) (fun xv s₁ => Hold (Ex8 fun (b : Nat) (t1 : Nat) (t2 : Nat) (vs : List Value) (ws : List Value) (l : Led) (kept : Led) (J : Nat → List Value → Led → Prop) => And16 (xv = .ref (b + 4)) (Fr h₀ L s₁.heap m) (News h₀ L s₁.heap l) (ZAt s₁.heap b t1 t2 0 .none) (∀ p ∈ l, @LT.lt Nat _ p.1 b) (@LT.lt Nat _ L b) (∀ c : Nat, b ≤ c → h₀.get? c = none) ((t1, tupO vs) ∈ kept) ((t2, tupO ws) ∈ kept) (∀ p ∈ kept, p ∈ l) (vs.length ≤ 1000) (vs.length = ws.length) (J 0 [] l) (∀ i ys nw, J i ys nw → ys.length ≤ i) (∀ i v1 v2 ys nw zl C D h tk dr (mC : Str → Option Value) (E' : Value → Shared → Prop), vs[i]? = some v1 → ws[i]? = some v2 → J i ys nw → (∀ p ∈ kept, p ∈ nw) → CV h₀ L m C D (fun y => if y = xb then some v2 else if y = xa then some v1 else mC y) ys (zl ++ nw) h → (∀ q ∈ zl, ∀ p ∈ nw, p.1 ≠ q.1) →
        wpAny (model prog w) A (isTrue c (compEnvC scope cl C env) (eval c (compEnvC scope cl C env))) (fun ok s₄ =>
          if ok = true then wpAny (model prog w) A (eval elt (compEnvC scope cl C env)) (CvE h₀ L m C D zl kept ys (J (i + 1)) s₁) E' s₄ else CvS h₀ L m C D zl kept ys (J (i + 1)) s₁ s₄) E' { s₁ with heap := h, toks := tk, drawn := dr }) (∀ D ys nw h tk dr, Fr h₀ L h m → News h₀ L h ((D, lst ys) :: nw) → (∀ p ∈ nw, p.1 ≠ D) → (∀ p ∈ l, p.1 < D) → (∀ p ∈ kept, p ∈ nw) → J vs.length ys nw → Q (.ref D) { s₁ with heap := h, toks := tk, drawn := dr }))) E s) :
    wpAny (model prog w) A (eval (.ListComp elt [⟨.Tuple [.Name xa pa, .Name xb pb] kt pt, it, [c], 0⟩] scope pos) env) Q E s := by
  rw [eval_ListComp]
  refine wpAny_comprehension_free (use := none) rfl hs hclos hkind hnames (wpAny_mono h (fun xv s₁ h₁ => ?_) fun _ _ e => e)
  obtain ⟨b, t1, t2, vs, ws, l, kept, J, rfl, F, N, Z, hlb, hLb, hb0, hm1, hm2, hkl, hsz, hvw, hJ, hlen, hb, hQ⟩ := h₁
  refine wpAny_pyIter_zip Z.z ?_
  obtain ⟨x₀, y₀, hTO⟩ := Z.TO
  obtain ⟨o1, he1, hc1⟩ := Z.i1
  obtain ⟨o2, he2, hc2⟩ := Z.i2
  have five : ∀ q ∈ zl5 b x₀ y₀ o1 o2, s₁.heap.get? q.1 = some q.2 ∧ q.1 ≠ L ∧ h₀.get? q.1 = none := by
    simp only [zl5, List.mem_cons, List.not_mem_nil, or_false]
    rintro _ (rfl | rfl | rfl | rfl | rfl)
    · exact ⟨Z.z, neN (by omega), hb0 _ (by omega)⟩
    · exact ⟨Z.TI, neN (by omega), hb0 _ (by omega)⟩
    · exact ⟨hTO, neN (by omega), hb0 _ (by omega)⟩
    · exact ⟨he1, neN (by omega), hb0 _ (by omega)⟩
    · exact ⟨he2, neN (by omega), hb0 _ (by omega)⟩
  have N0 : News h₀ L s₁.heap (zl5 b x₀ y₀ o1 o2 ++ l) := fun p hp => (List.mem_append.mp hp).elim (five p) (N p)
  refine comp_open (s₂ := s₁) (fun ys nw => (∀ p ∈ kept, p ∈ nw) ∧ J vs.length ys nw) F N0 (Heap.lt_size Z.z) hcell hkind (fun s' Q' E' k q => wpAny_pyIter_zip (k _ _ Z.z) q) (fun C D hC tk V hCI hDI k => ?_) (fun D ys nw hD tk dr F' N' o' lt' fin => hQ D ys nw hD tk dr F' N' o' (fun p hp => lt' p (List.mem_append_right _ hp)) fin.1 fin.2)
  have hC5 : @LT.lt Nat _ C b ∨ @LT.lt Nat _ (b + 4) C := zl5_on (x := x₀) (y := y₀) (o1 := o1) (o2 := o2) fun q hq => V.offC q (List.mem_append_left _ hq)
  have hD5 : @LT.lt Nat _ D b ∨ @LT.lt Nat _ (b + 4) D := zl5_on (x := x₀) (y := y₀) (o1 := o1) (o2 := o2) fun q hq => V.offD q (List.mem_append_left _ hq)
  refine cv_gen (s := { s₁ with heap := hC, toks := tk }) (pos := it.pos) (body := fun v => letOwnedTupleGo (PySem.Expr.Tuple [.Name xa pa, .Name xb pb] kt pt) (.ref (b + 4)) v >>= fun _ => assign (PySem.Expr.Tuple [.Name xa pa, .Name xb pb] kt pt) (compEnvC scope cl C env) v >>= fun _ =>
        (forIn [c] true fun c r => if r = true then do let ok ← isTrue c (compEnvC scope cl C env) (eval c (compEnvC scope cl C env)); pure (ForInStep.yield ok) else pure (ForInStep.yield r)) >>= fun ok =>
        if ok = true then (eval elt (compEnvC scope cl C env) >>= fun x => call (.builtin "list.append") [.ref D, x] >>= fun _ => pure ()) >>= fun _ => again (.compLoop (.ListComp elt [⟨PySem.Expr.Tuple [.Name xa pa, .Name xb pb] kt pt, it, [c], 0⟩] scope pos) 0 (.ref (b + 4)) (.ref D) (compEnvC scope cl C env))
        else again (.compLoop (.ListComp elt [⟨PySem.Expr.Tuple [.Name xa pa, .Name xb pb] kt pt, it, [c], 0⟩] scope pos) 0 (.ref (b + 4)) (.ref D) (compEnvC scope cl C env))) (n := vs.length)
    (fun i s' => Ex6 fun ys nw h tk dr mC => And6 (s' = { s₁ with heap := h, toks := tk, drawn := dr }) (CV h₀ L m C D mC ys nw h) (ZAt h b t1 t2 i .none) (∀ p ∈ kept, p ∈ nw) (∀ p ∈ nw, @LT.lt Nat _ p.1 b ∨ @LT.lt Nat _ (b + 4) p.1) (J i ys nw)) rfl rfl (compTurn_list _ _ _ _ _ _ _ _ _) rfl ?st ?sp ?s0
  case s0 => exact ⟨[], l, hC, _, _, _, rfl, V.sub fun p hp => List.mem_append_right _ hp, ⟨k _ _ Z.z, k _ _ Z.TI, ⟨_, _, k _ _ hTO⟩, ⟨o1, k _ _ he1, hc1⟩, ⟨o2, k _ _ he2, hc2⟩⟩, hkl, fun p hp => .inl (hlb p hp), hJ⟩
  case st =>
    rintro i _ E' hi ⟨ys, nw, h, tk', dr, mC, rfl, V', Z', hk', hoff, hJ'⟩
    obtain ⟨v1, hv1⟩ : ∃ v, vs[i]? = some v := ⟨vs[i], by simp [hi]⟩
    obtain ⟨v2, hv2⟩ : ∃ v, ws[i]? = some v := ⟨ws[i], by simp [hvw ▸ hi]⟩
    refine zipT_item Z' (hoff _ (hk' _ hm1)) (hoff _ (hk' _ hm2)) ⟨_, (V'.N _ (hk' _ hm1)).1, rfl, 0, rfl⟩ ⟨_, (V'.N _ (hk' _ hm2)).1, rfl, 0, rfl⟩ (by simpa using hv1) (by simpa using hv2) fun T h₁ Z₁ hT hTs k₁ => ?_
    refine ⟨_, rfl, ?_⟩
    have V₁ := V'.but5 k₁ hC5 hD5 hLb hb0 hoff
    have hzlt : b + 4 < h.objs.size := Heap.lt_size Z'.z
    have hTb : @LT.lt Nat _ T b ∨ @LT.lt Nat _ (b + 4) T := .inr (Nat.lt_of_lt_of_le hzlt hTs)
    have T0 : h₀.get? T = none := V'.fresh hTs
    have TC : @Ne Nat T C := Nat.ne_of_gt (Nat.lt_of_lt_of_le V'.ltC hTs)
    have TD : @Ne Nat T D := Nat.ne_of_gt (Nat.lt_of_lt_of_le V'.ltD hTs)
    have TL : @Ne Nat T L := Nat.ne_of_gt (Nat.lt_of_lt_of_le V'.ltL hTs)
    have V₂ := V₁.add (a := T) (o := tupO [v1, v2]) hT TC TD TL T0
    refine wpAny_bind (zipT_go (s := { s₁ with heap := h₁, toks := tk', drawn := dr }) Z₁ fun h₂ Z₂ k₂ => ?_)
    have V₃ := V₂.but5 k₂ hC5 hD5 hLb hb0 (fcons hTb hoff)
    obtain ⟨x₂, y₂, hTO₂⟩ := Z₂.TO
    obtain ⟨p1, hp1, hd1⟩ := Z₂.i1
    obtain ⟨p2, hp2, hd2⟩ := Z₂.i2
    have nC : ∀ j : Nat, j ≤ 4 → @Ne Nat (b + j) C := fun j hj => out5 hC5 hj
    have nD : ∀ j : Nat, j ≤ 4 → @Ne Nat (b + j) D := fun j hj => out5 hD5 hj
    have V₄ : CV h₀ L m C D mC ys (zl5 b x₂ y₂ p1 p2 ++ ((T, tupO [v1, v2]) :: nw)) h₂ :=
      ((((V₃.add hp2 (nC 1 (by omega)) (nD 1 (by omega)) (neN (by omega)) (hb0 _ (by omega))).add hp1 (nC 0 (by omega)) (nD 0 (by omega)) (neN (by omega)) (hb0 _ (by omega))).add hTO₂ (nC 3 (by omega)) (nD 3 (by omega)) (neN (by omega)) (hb0 _ (by omega))).add Z₂.TI (nC 2 (by omega)) (nD 2 (by omega)) (neN (by omega)) (hb0 _ (by omega))).add Z₂.z (nC 4 (by omega)) (nD 4 (by omega)) (neN (by omega)) (hb0 _ (by omega))
    have htt := V₄.N (T, tupO [v1, v2]) (List.mem_append_right _ ((.head _)))
    refine wpAny_bind (assign_Tuple_tuple (s := { s₁ with heap := h₂, toks := tk', drawn := dr }) hh (⟨_, htt.1, rfl, 0, rfl⟩ : IsTup h₂ T #[v1, v2]) rfl rfl fun h₃ hx => ?_)
    have V₅ := V₄.grow (h' := h₃) fun b o e => hx b o (Nat.ne_of_lt (Heap.lt_size e)) e
    refine assignInOrder_cons (cv_store (s := { s₁ with heap := h₃, toks := tk', drawn := dr }) V₅ rfl hkind (hxa C) fun h₄ V₆ => ?_)
    refine assignInOrder_cons (cv_store (s := { s₁ with heap := h₄, toks := tk' + 1, drawn := dr }) V₆ rfl hkind (hxb C) fun h₅ V₇ => ?_)
    refine assignInOrder_nil ?_
    have V₈ := V₇.sub (news' := zl5 b x₂ y₂ p1 p2 ++ nw) fun p hp => (List.mem_append.mp hp).elim (fun h => List.mem_append_left _ h) fun h => List.mem_append_right _ ((.tail _ h))
    have back : ∀ {mC' ys' nw' h'}, CV h₀ L m C D mC' ys' (zl5 b x₂ y₂ p1 p2 ++ nw') h' → (∀ q ∈ zl5 b x₂ y₂ p1 p2, ∀ p ∈ nw', p.1 ≠ q.1) → CV h₀ L m C D mC' ys' nw' h' ∧ ZAt h' b t1 t2 (i + 1) .none ∧ (∀ p ∈ nw', @LT.lt Nat _ p.1 b ∨ @LT.lt Nat _ (b + 4) p.1) := by
      intro mC' ys' nw' h' V9 o9
      have g : ∀ q ∈ zl5 b x₂ y₂ p1 p2, h'.get? q.1 = some q.2 := fun q hq => (V9.N q (List.mem_append_left _ hq)).1
      exact ⟨V9.sub fun p hp => List.mem_append_right _ hp, ⟨g _ (.head _), g _ (.tail _ (.head _)), ⟨_, _, g _ (.tail _ (.tail _ (.head _)))⟩, ⟨p1, g _ (.tail _ (.tail _ (.tail _ (.head _)))), hd1⟩, ⟨p2, g _ (.tail _ (.tail _ (.tail _ (.tail _ (.head _))))), hd2⟩⟩, fun p hp => zl5_on fun q hq => (o9 q hq p hp).symm⟩
    refine wpAny_bind (wpAny_tests_one (wpAny_mono (hb i v1 v2 ys nw (zl5 b x₂ y₂ p1 p2) C D h₅ _ dr mC E' hv1 hv2 hJ' hk' V₈ (fun q hq p hp => zl5_off (hoff p hp) q hq)) (fun ok s₄ h₄ => ?_) fun _ _ e => e))
    cases ok with
    | true =>
      refine wpAny_bind (wpAny_bind (wpAny_mono h₄ (fun y s₅ h₅ => ?_) fun _ _ e => e))
      obtain ⟨nw', h', tk'', dr', mC', rfl, V₉, hk₉, ho₉, hJ₉⟩ := h₅
      refine wpAny_bind (cv_append (s := { s₁ with heap := h', toks := tk'', drawn := dr' }) V₉ (by have := hlen _ _ _ hJ'; rw [sizeLine_eq]; omega) fun h'' Va => ?_)
      obtain ⟨w1, w2, w3⟩ := back Va ho₉
      exact wpAny_pure (wpAny_pure ⟨rfl, ys ++ [y], nw', h'', tk'', dr', mC', rfl, w1, w2, hk₉, w3, hJ₉⟩)
    | false =>
      obtain ⟨nw', h', tk'', dr', mC', rfl, V₉, hk₉, ho₉, hJ₉⟩ := h₄
      obtain ⟨w1, w2, w3⟩ := back V₉ ho₉
      exact wpAny_pure ⟨rfl, ys, nw', h', tk'', dr', mC', rfl, w1, w2, hk₉, w3, hJ₉⟩
  case sp =>
    rintro _ E' ⟨ys, nw, h, tk', dr, mC, rfl, V', Z', hk', hoff, hJ'⟩
    refine zipT_end (ys := #[]) hh Z' (hoff _ (hk' _ hm1)) ⟨_, (V'.N _ (hk' _ hm1)).1, rfl, 0, rfl⟩ (by simp) fun h₂ k₂ => ⟨rfl, ?_⟩
    exact ⟨ys, nw, h₂, tk', dr, mC, rfl, rfl, V'.but5 k₂ hC5 hD5 hLb hb0 hoff, hk', hJ'⟩

variable {l : Led}
theorem zip_call {t1 t2 : Nat} {vs ws : List Value} {Q : Value → Shared → Prop} (F : Fr h₀ L s.heap m) (N : News h₀ L s.heap l) (h1 : (t1, tupO vs) ∈ l) (h2 : (t2, tupO ws) ∈ l)
    (h : ∀ h' (b : Nat), Fr h₀ L h' m → News h₀ L h' l → ZAt h' b t1 t2 0 .none → (∀ p ∈ l, @LT.lt Nat _ p.1 b) → @LT.lt Nat _ L b → (∀ c : Nat, b ≤ c → h₀.get? c = none) → Q (.ref (b + 4)) { s with heap := h' }) :
    wpAny (model prog w) A (call (.type "zip") [.ref t1, .ref t2]) Q E s :=
  call_zipT ⟨_, (N _ h1).1, rfl, 0, rfl⟩ ⟨_, (N _ h2).1, rfl, 0, rfl⟩ fun h' Z k => h h' _ (F.keeps k) (News.grown N k) Z (fun p hp => Heap.lt_size (N p hp).1) F.ns.lt fun c hc => by
    cases q : h₀.get? c with
    | none => rfl
    | some o => exact absurd (Heap.lt_size (F.keep _ _ q)) (Nat.not_lt.mpr hc)
end

end

section
set_option maxHeartbeats 4000000
theorem Tm.ends_le (T : Tm) : (T.kids.flatMap Tm.ends).length ≤ T.ends.length := by cases T <;> exact Nat.le_of_ble_eq_true rfl
theorem Tm.ends_take {T U : Tm} {j : Nat} (h : T.kids[j]? = some U) : ((T.kids.take j).flatMap Tm.ends).length + U.ends.length ≤ T.ends.length := by
  refine Nat.le_trans ?_ T.ends_le
  obtain ⟨hlt, he⟩ := List.getElem?_eq_some_iff.mp h
  conv => rhs; rw [← List.take_append_drop j T.kids, List.drop_eq_getElem_cons hlt, he]
  rw [List.flatMap_append, List.length_append, List.flatMap_cons, List.length_append]
  omega
noncomputable def TGood (σ : Str → Option Str) (kvs : List (Str × Value)) : Prop := ∀ p ∈ kvs, Ex2 fun y t => And2 (p.2 = .str y t) (σ p.1 = some y)
noncomputable def SigOk (σ : Str → Option Str) (T : Tm) : Prop := ∀ x ∈ T.ends, Short x ∧ (Mine.isVar x = true → ∃ y, σ x = some y ∧ Short y)
noncomputable def GoesPost (w : World) (σ : Str → Option Str) (tb : Addr) (n : Nat) (rest : Led) (news' : Led) (r : Value) : Prop :=
  Ex2 fun o' kvs' => And5 (news' = (tb, o') :: rest) (o'.IsDictOf (PySem.strKind PySem.Challenge.rw_rg0118_01.row.prog w) kvs') (TGood σ kvs') (kvs'.length ≤ n) (r = .bool true)
noncomputable def GoesC (w : World) (σ : Str → Option Str) (tb : Addr) (n₀ : Led) (T : Tm) (v u : Value) : Prop := ∀ (rest : Led) (o : Obj) (kvs : List (Str × Value)), (∀ p ∈ n₀, p ∈ rest) → (∀ p ∈ rest, p.1 ≠ tb) → o.IsDictOf (PySem.strKind PySem.Challenge.rw_rg0118_01.row.prog w) kvs → TGood σ kvs → kvs.length + T.ends.length ≤ 100 →
  Fn w 460 (4 * T.sz + 16) [v, u, .ref tb] ((tb, o) :: rest) (GoesPost w σ tb (kvs.length + T.ends.length) rest)

theorem short_f : Short (Str.ofString "f") := by unfold Short; decide +kernel
theorem short_g : Short (Str.ofString "g") := by unfold Short; decide +kernel
theorem isVar_f : (Txt.slice (Str.ofString "f") none (some 1) == Str.ofString "?") = false := by decide +kernel
theorem isVar_g : (Txt.slice (Str.ofString "g") none (some 1) == Str.ofString "?") = false := by decide +kernel
section
variable {prog : Program} {w : World} {A : Around} {E : Value → Shared → Prop} {s : Shared} {h₀ : Heap} {L : Addr} {l : Led}
theorem eq_nils {a b : Addr} {n : Nat} {Q : Value → Shared → Prop} (N : News h₀ L s.heap l) (ha : (a, LCg.lst []) ∈ l) (hb : (b, W.listOf #[] n) ∈ l) (hu : A.units + 64 < cLine) (h : Q (.bool true) s) : wpAny (model prog w) A (compareOp .Eq (.ref a) (.ref b)) Q E s :=
  eq_dataH (reads_list_at (N _ ha).1 rfl rfl .nil) (reads_list_at (N _ hb).1 rfl rfl .nil) rfl rfl hu h
theorem ne_nils {a b : Addr} {n : Nat} {Q : Value → Shared → Prop} (N : News h₀ L s.heap l) (ha : (a, LCg.lst []) ∈ l) (hb : (b, W.listOf #[] n) ∈ l) (hu : A.units + 64 < cLine) (h : Q (.bool false) s) : wpAny (model prog w) A (compareOp .NotEq (.ref a) (.ref b)) Q E s :=
  ne_dataH (reads_list_at (N _ ha).1 rfl rfl .nil) (reads_list_at (N _ hb).1 rfl rfl .nil) rfl rfl hu h
theorem len_tupL {t : Addr} {vs : List Value} {Q : Value → Shared → Prop} (N : News h₀ L s.heap l) (ht : (t, tupO vs) ∈ l) (hb : vs.length ≤ 1001) (h : Q (.int vs.length (s.toks + 1)) { s with toks := s.toks + 1 + 1 }) :
    wpAny (model prog w) A (call (.builtin "len") [.ref t]) Q E s :=
  len_tuple (News.isTup N ht) (by simp; omega) (by simpa using h)
end
theorem Tm.ends_kids {T U : Tm} (h : U ∈ T.kids) : ∀ x ∈ U.ends, x ∈ T.ends := by
  intro x hx
  cases T <;> simp [Tm.kids] at h <;> (rcases h with rfl | rfl) <;> simp [Tm.ends] at hx ⊢ <;> simp [hx]
theorem GoesC.at {w : World} {σ : Str → Option Str} {tb : Addr} {n₀ : Led} {T : Tm} {v u : Value} (C : GoesC w σ tb n₀ T v u) {rest : Led} {o : Obj} {kvs : List (Str × Value)} (h1 : ∀ p ∈ n₀, p ∈ rest) (h2 : ∀ p ∈ rest, p.1 ≠ tb) (h3 : o.IsDictOf (PySem.strKind PySem.Challenge.rw_rg0118_01.row.prog w) kvs) (h4 : TGood σ kvs) (h5 : kvs.length + T.ends.length ≤ 100) :
  Fn w 460 (4 * T.sz + 16) [v, u, .ref tb] ((tb, o) :: rest) (GoesPost w σ tb (kvs.length + T.ends.length) rest) := C rest o kvs h1 h2 h3 h4 h5

end
theorem ln_NI_29 : True := by
  k_with "compareOp Eq ref ref" => (k_here; k_dflt (refine' eq_nils ?Nq9 ?aq9 ?bq9 ?uq9 ?_; (case Nq9 => k_asm); (case aq9 => k_mem); (case bq9 => k_mem); (case uq9 => ktr_units)))
  k_with "compareOp NotEq ref ref" => (k_here; k_dflt (refine' ne_nils ?Nq9 ?aq9 ?bq9 ?uq9 ?_; (case Nq9 => k_asm); (case aq9 => k_mem); (case bq9 => k_mem); (case uq9 => ktr_units)))
  k_with "call builtin:len" => (k_here; (with_reducible show wpAny _ _ (call (Value.builtin _) [Value.ref _]) _ _ _); k_dflt (refine' len_tupL ?Nq9 ?mq9 ?bq9 ?_; (case Nq9 => k_asm); (case mq9 => k_mem); (case bq9 => (simp only [List.length_cons]; (fail_if_success decide); omega))))
  k_with "eval ListComp Constant cons" => (((k_here; (with_reducible rename Fr _ _ _ _ => F9q9); k_dflt (refine' compK_zip F9q9 ?hhq9 ?hclq9 ?hceq9 ?hkiq9 ?hnaq9 ?hsq9 ?haq9 ?hbq9 ?_; (case hhq9 => exact rfl); (case hclq9 => exact rfl); (case hkiq9 => exact rfl); (case hceq9 => decide); (case hnaq9 => decide); (case hsq9 => (intro _; with_unfolding_all rfl)); (case haq9 => (intro _; rfl)); (case hbq9 => (intro _; rfl))))) <;> walk_at "hide9a")
  k_with "call type:zip" => (((k_here; k_dflt (refine' zip_call ?Fq9 ?Nq9 ?aq9 ?bq9 ?_; (case Fq9 => k_asm); (case Nq9 => k_asm); (case aq9 => k_mem); (case bq9 => k_mem)); (intro _ _ _ _ _ l1q9 _ _); (try simp only [List.forall_mem_cons] at l1q9))) <;> walk_at "hide9a")
  k_with "getMethod ref" => (k_here; (with_reducible show wpAny _ _ (getMethod (Value.ref _) (Str.ofString "setdefault") _) _ _ _); k_dflt (refine' kob_method (knd := PySem.strKind _ _) PySem.F.slot_dict_setdefault PySem.F.type_dict_setdefault ?Nq9 ?mq9 ?dq9 ?_; (case Nq9 => k_asm); (case mq9 => k_mem); (case dq9 => assumption)))
  k_with "call builtin:dict.setdefault" => (((k_here; (with_reducible show wpAny _ _ (call (Value.builtin _) [Value.ref _, Value.str _ _, Value.str _ _]) _ _ _); k_dflt (first | (refine' kob_setdef_there ?Nq9 ?mq9 ?dq9 ?lq9 (strKind_is _ _ _ _) (PySem.F.args_dict_setdefault_3 _ _ _) ?vq9 ?zq9 ?_; (case Nq9 => k_asm); (case mq9 => k_mem); (case dq9 => assumption); (case lq9 => assumption); (case vq9 => assumption); (case zq9 => exact k1000 (by omega))) | (refine' kob_setdef_new ?Fq9 ?Nq9 ?Uq9 ?dq9 ?lq9 (strKind_is _ _ _ _) (PySem.F.args_dict_setdefault_3 _ _ _) ?vq9 ?zq9 ?_; (case Fq9 => k_asm); (case Nq9 => k_asm); (case Uq9 => k_updF); (case dq9 => assumption); (case lq9 => assumption); (case vq9 => assumption); (case zq9 => exact k1000 (by omega)); (intro _ _ _ N'q9 _); (try dsimp only at N'q9))))) <;> walk_at "hide9a")
  exact True.intro
section
set_option maxHeartbeats 4000000
theorem ln_NI_30 : True := by
  k_with "call ref" => (k_here; (with_reducible show wpAny _ _ (call (Value.ref 460) [_, _, _]) _ _ _); k_dflt (refine' Fn.useK ?kCq9 ?kBq9 ?kFq9 ?kXq9 ?kNq9 ?kTq9 ?kkq9 ?kdq9 ?kuq9 ?_; (case kBq9 => k_asm); (case kFq9 => k_asm); (case kXq9 => k_asm); (case kNq9 => k_asm); (case kTq9 => k_asm); (case kkq9 => first | exact rfl | assumption); (case kCq9 => exact (GoesC.at ‹GoesC _ _ _ _ _ _ _› (by assumption) (by assumption) (by assumption) (by assumption) (by omega))); (case kdq9 => ktr_room); (case kuq9 => ktr_units)); (intro KQ9q9 hKQ9q9 _ _ _ _ _ _ _ P9q9); (obtain ⟨_, _, e1q9, _, _, _, e2q9⟩ := P9q9); (replace e1q9 := Eq.symm e1q9); (subst e1q9); (try subst e2q9); (refine hKQ9q9 _ _ _ _ ?_); (clear hKQ9q9 KQ9q9); (try dsimp only))
  exact True.intro
theorem goes_spec (w : World) (σ : Str → Option Str) (tb : Addr) (hlo : (tb == sysModules) = false) :
    ∀ (T : Tm) (v u : Value) (n₀ : Led), Rel n₀ v T → Rel n₀ u (T.fill σ) → SigOk σ T → GoesC w σ tb n₀ T v u := by
  have main : ∀ (tm : Tm), (∀ T', T'.sz < tm.sz → ∀ (v u : Value) (n₀ : Led), Rel n₀ v T' → Rel n₀ u (T'.fill σ) → SigOk σ T' → GoesC w σ tb n₀ T' v u) → ∀ (v u : Value) (n₀ : Led), Rel n₀ v tm → Rel n₀ u (tm.fill σ) → SigOk σ tm → GoesC w σ tb n₀ tm v u := by
    intro tm IH v u n₀ hR0 hU0 hS rest o kvs k0 hoff hD hG hlen
    have hR := hR0.mono k0
    have hU := hU0.mono k0
    by_cases hvt : tm.isVar = true
    · obtain ⟨x, rfl⟩ : ∃ x, tm = .l x := by cases tm <;> first | exact ⟨_, rfl⟩ | exact absurd hvt Bool.false_ne_true
      have hv : Mine.isVar x = true := hvt
      obtain ⟨hxs, hxv⟩ := hS x (by simp [Tm.ends])
      obtain ⟨a, t, rfl, ha⟩ := hR.leaf
      obtain ⟨y, hy, hys⟩ := hxv hv
      have hv2 : (Txt.slice x none (some 1) == Str.ofString "?") = true := hv
      have e : (Tm.fill σ (.l x)) = .l y := by simp [Tm.fill, fillS, hv, hy]
      rw [e] at hU
      obtain ⟨a2, t2, rfl, ha2⟩ := Rel.leaf hU
      have hvx : valueAt kvs x = none ∨ ∃ t', valueAt kvs x = some (.str y t') := by
        cases q : valueAt kvs x with
        | none => exact .inl rfl
        | some v =>
          have hm : (x, v) ∈ kvs := by
            obtain ⟨p, hp, e2⟩ := Option.map_eq_some_iff.mp q
            have h1 := List.find?_some hp
            have h2 := List.mem_of_find?_eq_some hp
            have h3 : p.1 = x := by simpa using h1
            obtain ⟨p1, p2⟩ := p
            simp only at h3 e2; subst h3; subst e2; exact h2
          obtain ⟨y', t', e1, e2⟩ := hG _ hm
          simp only at e1 e2
          rw [hy] at e2; cases e2
          exact .inr ⟨t', by rw [e1]⟩
      rcases hvx with hvx | ⟨t', hvx⟩
      · (w_top off; unfold Fn; intro loose mean mg mb dp un gd cn cs a9 ccd cl outer A₀ base h₀ L m s Q E B F X N T hk hdp hun hret; (have kf : KF (rgTop.heap_1 w.params) PySem.Challenge.rw_rg0118_01 := (by k_fill; trivial)); clear kf; refine wpAny_call ?_; k_dflt (refine' code_defC ?k1 ?k2 ?k3 ?k4 ?k5 ?kA ?kF ?kK ?k6 ?k7 ?k8 ?k9 ?kB ?kD ?_ ?c2 ?c3 ?c4; (case kA => exact rfl); (case kF => exact rfl); (case kK => assumption); (case k1 => k_asm); (case k2 => k_asm); (case k3 => k_asm); (case k4 => k_asm); (case k5 => k_asm); (case k6 => k_is); (case k7 => k_is); (case k8 => ktr_room); (case k9 => exact BindsTo.of_eq rfl); (case kB => exact rfl); (case kD => decide +kernel); (case c2 => exact rfl); (case c3 => exact rfl); (case c4 => exact rfl); k_whole; intro g' L' h' tk' cells' FG' F' N' Y' B' X' T' l1; (have l1b := tbn_up (ltN (Nat.lt_succ_self L')) (allLt_of l1)); (try simp only [AllLt, and_true] at l1b); (try k_lt l1); k_cells Y'; (try simp only [List.cons_append, List.nil_append] at N'); (try dsimp only); (try k_fold)))
        ((try k_fold); k_steps)
        refine hret _ ((tb, _) :: rest) _ _ _ (by assumption) (News_sub (by assumption) (by (k_extra "sub9"))) ⟨_, stored kvs x (.str y _), rfl, by assumption, ?_, ?_, by rw [beq_self_eq_true]⟩
        · have hnk : x ∉ kvs.map (·.1) := fun h => by
            have := valueAt_isSome (kvs := kvs) (k := x)
            rw [hvx, decide_eq_true h] at this; cases this
          rw [stored_new hnk]
          intro p hp
          rcases List.mem_append.mp hp with hp | hp
          · exact hG p hp
          · rw [List.mem_singleton.mp hp]; exact ⟨y, _, rfl, hy⟩
        · exact stored_length _ _ _
      · (w_top off; unfold Fn; intro loose mean mg mb dp un gd cn cs a9 ccd cl outer A₀ base h₀ L m s Q E B F X N T hk hdp hun hret; (have kf : KF (rgTop.heap_1 w.params) PySem.Challenge.rw_rg0118_01 := (by k_fill; trivial)); clear kf; refine wpAny_call ?_; k_dflt (refine' code_defC ?k1 ?k2 ?k3 ?k4 ?k5 ?kA ?kF ?kK ?k6 ?k7 ?k8 ?k9 ?kB ?kD ?_ ?c2 ?c3 ?c4; (case kA => exact rfl); (case kF => exact rfl); (case kK => assumption); (case k1 => k_asm); (case k2 => k_asm); (case k3 => k_asm); (case k4 => k_asm); (case k5 => k_asm); (case k6 => k_is); (case k7 => k_is); (case k8 => ktr_room); (case k9 => exact BindsTo.of_eq rfl); (case kB => exact rfl); (case kD => decide +kernel); (case c2 => exact rfl); (case c3 => exact rfl); (case c4 => exact rfl); k_whole; intro g' L' h' tk' cells' FG' F' N' Y' B' X' T' l1; (have l1b := tbn_up (ltN (Nat.lt_succ_self L')) (allLt_of l1)); (try simp only [AllLt, and_true] at l1b); (try k_lt l1); k_cells Y'; (try simp only [List.cons_append, List.nil_append] at N'); (try dsimp only); (try k_fold)))
        ((try k_fold); k_steps)
        refine hret _ ((tb, o) :: rest) _ _ _ (by assumption) (News_sub (by assumption) (by (k_extra "sub9"))) ⟨o, kvs, rfl, hD, hG, Nat.le_add_right _ _, by rw [beq_self_eq_true]⟩
    have hfo : (tm.fill σ).op = tm.op := by
      cases tm <;> first | rfl | (rename_i x; show fillS σ x = x; exact if_neg hvt)
    obtain ⟨a, t, kws, rfl, ha, hks, hkl⟩ := hR.open
    obtain ⟨a2, t2, kws2, rfl, ha2, hks2, hkl2⟩ := hU.open
    rw [hfo] at ha2
    have hkk : kws.length = kws2.length := by rw [Paired.length hks, Paired.length hks2, Tm.fill_kids, List.length_map]
    have hkl3 : kws.length < 1000 := by omega
    have hkl4 : kws2.length < 1000 := by omega
    have hsz := tm.sz_le
    have hops : Short tm.op := by
      cases tm <;> first | exact short_f | exact short_g | exact (hS _ (.head _)).1
    have hv2 : (Txt.slice tm.op none (some 1) == Str.ofString "?") = false := by
      cases tm <;> first | exact isVar_f | exact isVar_g | exact Bool.eq_false_iff.mpr hvt
    have hxx : (tm.op != tm.op) = false := by simp
    have hl2 : ((Value.str tm.op t :: kws).length : Int) = ((Value.str tm.op t2 :: kws2).length : Int) := by simp [hkk]
    (w_top off; unfold Fn; intro loose mean mg mb dp un gd cn cs a9 ccd cl outer A₀ base h₀ L m s Q E B F X N T hk hdp hun hret; (have kf : KF (rgTop.heap_1 w.params) PySem.Challenge.rw_rg0118_01 := (by k_fill; trivial)); clear kf; refine wpAny_call ?_; k_dflt (refine' code_defC ?k1 ?k2 ?k3 ?k4 ?k5 ?kA ?kF ?kK ?k6 ?k7 ?k8 ?k9 ?kB ?kD ?_ ?c2 ?c3 ?c4; (case kA => exact rfl); (case kF => exact rfl); (case kK => assumption); (case k1 => k_asm); (case k2 => k_asm); (case k3 => k_asm); (case k4 => k_asm); (case k5 => k_asm); (case k6 => k_is); (case k7 => k_is); (case k8 => ktr_room); (case k9 => exact BindsTo.of_eq rfl); (case kB => exact rfl); (case kD => decide +kernel); (case c2 => exact rfl); (case c3 => exact rfl); (case c4 => exact rfl); k_whole; intro g' L' h' tk' cells' FG' F' N' Y' B' X' T' l1; (have l1b := tbn_up (ltN (Nat.lt_succ_self L')) (allLt_of l1)); (try simp only [AllLt, and_true] at l1b); (try k_lt l1); k_cells Y'; (try simp only [List.cons_append, List.nil_append] at N'); (try dsimp only); (try k_fold)))
    ((try k_fold); k_steps)
    · first | exact absurd hl2 (by assumption) | (exfalso; omega)
    rename_i okc dkc _ _ hE1 tE kE xE _ _ _ _ _ _ aE _ _ D1 hE2 lD1 D2 hE3 FE NE lD2 hE4 bz FZ NZ Z lz2 lz3 lz1
    clear FE NE
    have hoff1 : ∀ p ∈ (D2, tupO kws2) :: (D1, tupO kws) :: (L' + 1, okc) :: rest, p.1 ≠ tb := fcons (Nat.ne_of_gt lD2.2.2.1) (fcons (Nat.ne_of_gt lD1.2.1) (fcons (Nat.ne_of_gt l1b.1) hoff))
    generalize hB : (D2, tupO kws2) :: (D1, tupO kws) :: (L' + 1, okc) :: rest = BASE at *
    have hBr : ∀ p ∈ rest, p ∈ BASE := by rw [← hB]; (k_extra "sub9")
    refine ⟨bz, D1, D2, kws, kws2, (tb, o) :: BASE, BASE, fun j ys nw => Ex2 fun o' kvs' => And5 (nw = (tb, o') :: BASE) (o'.IsDictOf (PySem.strKind PySem.Challenge.rw_rg0118_01.row.prog w) kvs') (TGood σ kvs') (kvs'.length ≤ kvs.length + ((tm.kids.take j).flatMap Tm.ends).length) (ys = []), rfl, FZ, News_sub NZ (by rw [← hB]; (k_extra "sub9")), Z, ?zl, lz2, lz3, by rw [← hB]; k_mem, by rw [← hB]; k_mem, fun p hp => .tail _ hp, Nat.le_of_lt hkl3, hkk, ⟨o, kvs, rfl, hD, hG, Nat.le_add_right _ _, rfl⟩, ?zb, ?zt, ?ze⟩
    case zl => (rw [← hB]; exact fcons lz1.2.2.2.1 (fcons lz1.1 (fcons lz1.2.1 (fcons lz1.2.2.1 lz1.2.2.2.2))))
    case zb => (rintro j ys nw ⟨_, _, _, _, _, _, rfl⟩; exact Nat.zero_le _)
    case zt =>
      rintro j v1 v2 ys nw zl C D' hh' tk' dr' mC E' hj1 hj2 ⟨o', kvs', rfl, hD', hG', hn', rfl⟩ hsub V off
      obtain ⟨U, hU, hRv, hUs⟩ := Paired.get hks hj1
      obtain ⟨U2, hU2, hRu, _⟩ := Paired.get hks2 hj2
      rw [Tm.fill_kids, List.getElem?_map, hU] at hU2
      cases hU2
      have hUm : U ∈ tm.kids := List.mem_of_getElem? hU
      have hSU : SigOk σ U := fun x hx => hS x (Tm.ends_kids hUm x hx)
      have hends := Tm.ends_take hU
      have IHv : GoesC w σ tb rest U v1 v2 := IH U hUs v1 v2 rest hRv hRu hSU
      obtain ⟨oC, hn, N4⟩ := V.led
      have F4 := V.F
      have offC4 := V.offC
      have offD4 := V.offD
      replace N4 := News_sub (news' := (tb, o') :: (C, oC) :: (D', LCg.lst []) :: (zl ++ BASE)) N4 (by (k_extra "sub9"))
      have offB4 : ∀ p ∈ (C, oC) :: (D', LCg.lst []) :: (zl ++ BASE), p.1 ≠ tb := fcons (Ne.symm (offC4 (tb, o') (List.mem_append_right _ ((.head _))))) (fcons (Ne.symm (offD4 (tb, o') (List.mem_append_right _ ((.head _))))) (fapp (fun q hq => Ne.symm (off q hq (tb, o') (.head _))) hoff1))
      have hkeep : ∀ p ∈ rest, p ∈ (C, oC) :: (D', LCg.lst []) :: (zl ++ BASE) := fun p hp => .tail _ (.tail _ (List.mem_append_right _ ((hBr p hp))))
      have hcell : (L' + 1, okc) ∈ BASE := by rw [← hB]; k_mem
      generalize hG4 : (C, oC) :: (D', LCg.lst []) :: (zl ++ BASE) = G4 at *
      have hcell4 : (L' + 1, okc) ∈ G4 := by rw [← hG4]; k_mem
      have hC4 : (C, oC) ∈ G4 := by rw [← hG4]; k_mem
      ((try k_fold); k_steps)
      rename_i h9 tk9 dr9 F9 o2 kvs2 hd2 hg2 hn2 N9
      refine ⟨(tb, o2) :: BASE, h9, tk9, dr9, _, rfl, V.back hn F9 N9 (.tail _ hC4) (by rw [← hG4]; k_mem) (by rw [← hG4]; (k_extra "sub9")) ?_ ?_, fun p hp => .tail _ hp, fun q hq => fcons (off q hq (tb, o') (.head _)) (fun p hp => off q hq p (.tail _ hp)), o2, kvs2, rfl, hd2, hg2, ?_, rfl⟩
      · exact fapp (fun p hp => offC4 p (List.mem_append_left _ hp)) (fcons (offC4 (tb, o') (List.mem_append_right _ ((.head _)))) (fun p hp => offC4 p (List.mem_append_right _ ((.tail _ hp)))))
      · exact fapp (fun p hp => offD4 p (List.mem_append_left _ hp)) (fcons (offD4 (tb, o') (List.mem_append_right _ ((.head _)))) (fun p hp => offD4 p (List.mem_append_right _ ((.tail _ hp)))))
      · rw [List.take_add_one, hU, List.flatMap_append, List.length_append]
        simp only [Option.toList, List.flatMap_cons, List.flatMap_nil, List.append_nil]
        omega
    case ze =>
      rintro Dc ys nw hc tkc drc Fc Nc offc ltc hsub ⟨o', kvs', rfl, hD', hG', hn', rfl⟩
      have hoffT : ∀ p ∈ BASE, p.1 ≠ tb := hoff1
      ((try k_fold); k_steps)
      refine hret _ ((tb, o') :: rest) _ _ _ (by assumption) (News_sub (by assumption) (fcons (.tail _ (.tail _ (.head _))) (fun p hp => .tail _ (.tail _ (.tail _ (hBr p hp)))))) ⟨o', kvs', rfl, hD', hG', ?_, rfl⟩
      refine Nat.le_trans hn' (Nat.add_le_add_left (Nat.le_trans ?_ tm.ends_le) _)
      rw [List.take_of_length_le (by rw [Paired.length hks]; exact Nat.le_refl _)]
      exact Nat.le_refl _
  intro T
  have all : ∀ n, ∀ T : Tm, T.sz < n → ∀ (v u : Value) (n₀ : Led), Rel n₀ v T → Rel n₀ u (T.fill σ) → SigOk σ T → GoesC w σ tb n₀ T v u := by
    intro n
    induction n with
    | zero => intro T h; exact absurd h (Nat.not_lt_zero _)
    | succ n ih => exact fun T h => main T fun T' h' => ih T' (by omega)
  exact all _ T (Nat.lt_succ_self _)

end

section
set_option maxHeartbeats 4000000
noncomputable abbrev ent (w : World) (nm : String) (t : Tok) (v : Value) : DictEntry := { hash := PyData.keyHash w.params (Str.ofString nm), key := .str (Str.ofString nm) t, val := v }
noncomputable abbrev bankD (w : World) (t : Nat → Tok) (nl nd wl dl : Nat) (n : Nat) : Obj := W.dictOf [ent w "nodes" (t 0) (.ref nl), ent w "numbers" (t 1) (.ref nd), ent w "weights" (t 2) (.ref wl), ent w "depths" (t 3) (.ref dl)] n
noncomputable abbrev unionsD (w : World) (t : Nat → Tok) (ab lt mg : Nat) (n : Nat) : Obj := W.dictOf [ent w "above" (t 0) (.ref ab), ent w "lots" (t 1) (.ref lt), ent w "merged" (t 2) (.ref mg)] n
noncomputable def tk4 (a b c d : Tok) : Nat → Tok | 0 => a | 1 => b | 2 => c | _ => d
theorem bank_new (w : World) (news : Led) : Fn w 186 10 [] news (fun news' r => Ex9 fun (Bd : Nat) (B : Nat) (nl : Nat) (nd : Nat) (wl : Nat) (dl : Nat) (oN : Obj) (t : Nat → Tok) (n : Nat) => And15 (news' = (dl, W.listOf #[] 0) :: (wl, W.listOf #[] 0) :: (nd, oN) :: (nl, W.listOf #[] 0) :: (B, W.instObj 186 Bd) :: (Bd, bankD w t nl nd wl dl n) :: news) (r = .ref B) (oN.IsDictOf (PySem.strKind PySem.Challenge.rw_rg0118_01.row.prog w) []) ((nd == sysModules) = false) (∀ p ∈ news, @LT.lt Nat _ p.1 Bd) (Bd < B) (B < nl) (nl < nd) (nd < wl) (wl < dl) (∀ p ∈ news, @LT.lt Nat _ p.1 B) (∀ p ∈ news, @LT.lt Nat _ p.1 nl) (∀ p ∈ news, @LT.lt Nat _ p.1 nd) (∀ p ∈ news, @LT.lt Nat _ p.1 wl) (∀ p ∈ news, @LT.lt Nat _ p.1 dl)) := by
  (w_top off; unfold Fn; intro loose mean mg mb dp un gd cn cs a9 ccd cl outer A₀ base h₀ L m s Q E B F X N T hk hdp hun hret; (have kf : KF (rgTop.heap_1 w.params) PySem.Challenge.rw_rg0118_01 := (by k_fill; trivial)); clear kf; k_dflt (refine' call_cls ?k1 ?k2 ?k3 ?k4 ?k5 ?k6 ?_; (case k1 => k_asm); (case k2 => k_asm); (case k3 => k_asm); (case k4 => k_is); (case k5 => k_is); (case k6 => k_is); k_whole; intro x' d' h' F' N' l1 l2; (try k_lt l1); (try k_lt2 l2); ktr_enter))
  ((try k_fold); k_steps)
  refine hret _ _ _ _ _ (by assumption) (by assumption) ⟨_, _, _, _, _, _, _, tk4 _ _ _ _, _, rfl, rfl, by assumption, by assumption, l1, l2, ?_, ?_, ?_, ?_, fun p hp => Nat.lt_trans (l1 p hp) l2, fun p hp => Nat.lt_trans (l1 p hp) (by omega), fun p hp => Nat.lt_trans (l1 p hp) (by omega), fun p hp => Nat.lt_trans (l1 p hp) (by omega), fun p hp => Nat.lt_trans (l1 p hp) (by omega)⟩
  all_goals omega
theorem unions_new (w : World) (news : Led) : Fn w 292 10 [] news (fun news' r => Ex7 fun (Ud : Nat) (U : Nat) (ab : Nat) (lt : Nat) (mg : Nat) (t : Nat → Tok) (n : Nat) => And11 (news' = (mg, W.listOf #[] 0) :: (lt, W.listOf #[] 0) :: (ab, W.listOf #[] 0) :: (U, W.instObj 292 Ud) :: (Ud, unionsD w t ab lt mg n) :: news) (r = .ref U) (∀ p ∈ news, @LT.lt Nat _ p.1 Ud) (Ud < U) (U < ab) (ab < lt) (lt < mg) (∀ p ∈ news, @LT.lt Nat _ p.1 U) (∀ p ∈ news, @LT.lt Nat _ p.1 ab) (∀ p ∈ news, @LT.lt Nat _ p.1 lt) (∀ p ∈ news, @LT.lt Nat _ p.1 mg)) := by
  (w_top off; unfold Fn; intro loose mean mg mb dp un gd cn cs a9 ccd cl outer A₀ base h₀ L m s Q E B F X N T hk hdp hun hret; (have kf : KF (rgTop.heap_1 w.params) PySem.Challenge.rw_rg0118_01 := (by k_fill; trivial)); clear kf; k_dflt (refine' call_cls ?k1 ?k2 ?k3 ?k4 ?k5 ?k6 ?_; (case k1 => k_asm); (case k2 => k_asm); (case k3 => k_asm); (case k4 => k_is); (case k5 => k_is); (case k6 => k_is); k_whole; intro x' d' h' F' N' l1 l2; (try k_lt l1); (try k_lt2 l2); ktr_enter))
  ((try k_fold); k_steps)
  refine hret _ _ _ _ _ (by assumption) (by assumption) ⟨_, _, _, _, _, tk4 _ _ _ 0, _, rfl, rfl, l1, l2, ?_, ?_, ?_, fun p hp => Nat.lt_trans (l1 p hp) l2, fun p hp => Nat.lt_trans (l1 p hp) (by omega), fun p hp => Nat.lt_trans (l1 p hp) (by omega), fun p hp => Nat.lt_trans (l1 p hp) (by omega)⟩
  all_goals omega


end
theorem ln_HA_31 : True := by
  k_with "kt9" => ((try dsimp only [units_in1, units_deeper, units_under_make, Around.mark_units, units_caller, ktrTop]); omega)
  k_with "call ref" => ((((k_here; (with_reducible show wpAny _ _ (call (Value.ref 186) _) _ _ _); k_dflt (refine' Fn.useK ?kCq9 ?kBq9 ?kFq9 ?kXq9 ?kNq9 ?kTq9 ?kkq9 ?kdq9 ?kuq9 ?_; (case kBq9 => k_asm); (case kFq9 => k_asm); (case kXq9 => k_asm); (case kNq9 => k_asm); (case kTq9 => k_asm); (case kkq9 => first | exact rfl | assumption); (case kCq9 => exact (bank_new _ _)); (case kdq9 => ktr_room); (case kuq9 => ktr_units)); (intro KQ9q9 hKQ9q9 _ _ _ _ _ _ _ P9q9); (obtain ⟨_, _, _, _, _, _, _, _, _, e1q9, e2q9, _, _, hb1q9, _, _, _, _, _, hc1q9, hc2q9, hc3q9, hc4q9, hc5q9⟩ := P9q9); (replace e1q9 := Eq.symm e1q9); (subst e1q9); (try subst e2q9); (refine hKQ9q9 _ _ _ _ ?_); (clear hKQ9q9 KQ9q9); (try dsimp only)); (try k_lt hb1q9); (try k_lt hc1q9); (try k_lt hc2q9); (try k_lt hc3q9); (try k_lt hc4q9); (try k_lt hc5q9))) <;> walk_at "hide9b")
  k_with "call ref" => ((((k_here; (with_reducible show wpAny _ _ (call (Value.ref 292) _) _ _ _); k_dflt (refine' Fn.useK ?kCq9 ?kBq9 ?kFq9 ?kXq9 ?kNq9 ?kTq9 ?kkq9 ?kdq9 ?kuq9 ?_; (case kBq9 => k_asm); (case kFq9 => k_asm); (case kXq9 => k_asm); (case kNq9 => k_asm); (case kTq9 => k_asm); (case kkq9 => first | exact rfl | assumption); (case kCq9 => exact (unions_new _ _)); (case kdq9 => ktr_room); (case kuq9 => ktr_units)); (intro KQ9q9 hKQ9q9 _ _ _ _ _ _ _ P9q9); (obtain ⟨_, _, _, _, _, _, _, e1q9, e2q9, hu1q9, _, _, _, _, hc1q9, hc2q9, hc3q9, hc4q9⟩ := P9q9); (replace e1q9 := Eq.symm e1q9); (subst e1q9); (try subst e2q9); (refine hKQ9q9 _ _ _ _ ?_); (clear hKQ9q9 KQ9q9); (try dsimp only)); (try k_lt hu1q9); (try k_lt hc1q9); (try k_lt hc2q9); (try k_lt hc3q9); (try k_lt hc4q9))) <;> walk_at "hide9b")
  exact True.intro
section
set_option maxHeartbeats 4000000
noncomputable def tk8 (a b c d e f g h : Tok) : Nat → Tok | 0 => a | 1 => b | 2 => c | 3 => d | 4 => e | 5 => f | 6 => g | _ => h
noncomputable abbrev heapD (w : World) (t : Nat → Tok) (B U ed fo kn av wt : Nat) (t0 : Tok) (n : Nat) : Obj := W.dictOf [ent w "bank" (t 0) (.ref B), ent w "unions" (t 1) (.ref U), ent w "edges" (t 2) (.ref ed), ent w "forest" (t 3) (.ref fo), ent w "known" (t 4) (.ref kn), ent w "above" (t 5) (.ref av), ent w "waiting" (t 6) (.ref wt), ent w "backs" (t 7) (.int 0 t0)] n

end

section
set_option maxHeartbeats 4000000
section
variable {prog : Program} {w : World} {A : Around} {E : Value → Shared → Prop} {s : Shared}
theorem eqBool_str_int {a : Str} {t u : Tok} {b : Int} {Q : Bool → Shared → Prop} (h : Q false s) : wpAny (model prog w) A (eqBool (.str a t) (.int b u)) Q E s := by
  unfold eqBool
  try with_reducible refine wpAny_holding ?_
  show wpAny _ _ (if (Value.str a t == Value.int b u) = true then _ else _) Q E s
  rw [if_neg (show ¬ ((Value.str a t == Value.int b u) = true) from fun e => Value.noConfusion (eq_of_beq e))]
  exact wpAny_bind (show wpAny _ A (richCompare .Eq _ _) _ E s from EqMixed.eq_str_int (wpAny_truthy_bool h))
theorem eqBool_int_str {a : Str} {t u : Tok} {b : Int} {Q : Bool → Shared → Prop} (h : Q false s) : wpAny (model prog w) A (eqBool (.int b u) (.str a t)) Q E s := by
  unfold eqBool
  try with_reducible refine wpAny_holding ?_
  show wpAny _ _ (if (Value.int b u == Value.str a t) = true then _ else _) Q E s
  rw [if_neg (show ¬ ((Value.int b u == Value.str a t) = true) from fun e => Value.noConfusion (eq_of_beq e))]
  exact wpAny_bind (show wpAny _ A (richCompare .Eq _ _) _ E s from EqMixed.eq_int_str (wpAny_truthy_bool h))
end
noncomputable abbrev MK := Sum Str Int
noncomputable def isMix : MK → Value → Bool
  | .inl x, v => Value.isStrOf x v
  | .inr i, v => Value.isInt i v
theorem isMix_inl {x : Str} {v : Value} (h : isMix (.inl x) v = true) : ∃ t, v = .str x t := Value.isStrOf_shape h
theorem isMix_inr {i : Int} {v : Value} (h : isMix (.inr i) v = true) : ∃ t, v = .int i t := Value.isInt_shape h
noncomputable def mixHash (w : World) : MK → Int
  | .inl x => hashStr w x
  | .inr i => hashInt i
theorem mix_inj (v : Value) (a b : MK) (ha : isMix a v = true) (hb : isMix b v = true) : a = b := by
  cases a with
  | inl x => obtain ⟨t, rfl⟩ := isMix_inl ha; cases b with
    | inl y => obtain ⟨u, e⟩ := isMix_inl hb; cases e; rfl
    | inr j => obtain ⟨u, e⟩ := isMix_inr hb; cases e
  | inr i => obtain ⟨t, rfl⟩ := isMix_inr ha; cases b with
    | inl y => obtain ⟨u, e⟩ := isMix_inl hb; cases e
    | inr j => obtain ⟨u, e⟩ := isMix_inr hb; cases e; rfl
theorem mix_strs (k : MK) (x : Str) (t : Tok) (v : Value) (h : isMix k (.str x t) = true) : isMix k v = v.isStr x := by
  cases k with
  | inl y => obtain ⟨u, e⟩ := isMix_inl h; cases e; cases v <;> rfl
  | inr i => obtain ⟨u, e⟩ := isMix_inr h; cases e
theorem mix_eq {prog : Program} {w : World} {A : Around} {E : Value → Shared → Prop} {s : Shared} {a b : MK} {u v : Value} {Q : Bool → Shared → Prop} (hu : isMix a u = true) (hv : isMix b v = true) (h : Q (decide (a = b)) s) : wpAny (model prog w) A (PySem.eqBool u v) Q E s := by
  cases a with
  | inl x => obtain ⟨t, rfl⟩ := isMix_inl hu; cases b with
    | inl y =>
      obtain ⟨t', rfl⟩ := isMix_inl hv
      have h' : Q (decide (x = y)) s := by simpa using h
      exact wpAny_eqBool_str h'
    | inr j => obtain ⟨t', rfl⟩ := isMix_inr hv; exact eqBool_str_int (by simpa using h)
  | inr i => obtain ⟨t, rfl⟩ := isMix_inr hu; cases b with
    | inl y => obtain ⟨t', rfl⟩ := isMix_inl hv; exact eqBool_int_str (by simpa using h)
    | inr j =>
      obtain ⟨t', rfl⟩ := isMix_inr hv
      have h' : Q (decide (i = j)) s := by simpa using h
      exact wpAny_eqBool_int h'
theorem mix_hash {prog : Program} {w : World} {A : Around} {E : Value → Shared → Prop} {s : Shared} {k : MK} {v : Value} {Q : Int → Shared → Prop} (hv : isMix k v = true) (h : Q (mixHash w k) { s with toks := s.toks + 1 }) : wpAny (model prog w) A (PySem.pyHash v) Q E s := by
  cases k with
  | inl x => obtain ⟨t, rfl⟩ := isMix_inl hv; exact wpAny_pyHash_str h
  | inr i => obtain ⟨t, rfl⟩ := isMix_inr hv; exact wpAny_pyHash_int h
theorem mix_by (k : MK) (v : Value) (h : isMix k v = true) : carriedByValue v = true := by
  cases k with
  | inl x => obtain ⟨t, rfl⟩ := isMix_inl h; rfl
  | inr i => obtain ⟨t, rfl⟩ := isMix_inr h; rfl
noncomputable def mixKind (prog : Program) (w : World) : PySem.KeyKind prog w MK where
  is := isMix
  hash := mixHash w
  inj := mix_inj
  byValue := mix_by
  pyHash := mix_hash
  eqBool := mix_eq
  «strs» := mix_strs
noncomputable abbrev tupK (w : World) := tupleKind (mixKind PySem.Challenge.rw_rg0118_01.row.prog w)

noncomputable abbrev Nd := Str × List Nat
noncomputable def Nd.key (n : Nd) : List MK := .inl n.1 :: n.2.map fun k : Nat => .inr (k : Int)
noncomputable def NatsAre (vs : List Value) (ks : List Nat) : Prop := Paired (fun v (k : Nat) => ∃ t, v = .int (k : Int) t) vs ks
theorem Nd.key_inj {a b : Nd} (h : a.key = b.key) : a = b := by
  obtain ⟨x, l⟩ := a
  obtain ⟨y, k⟩ := b
  simp only [Nd.key, List.cons.injEq, Sum.inl.injEq] at h
  obtain ⟨rfl, h⟩ := h
  congr 1
  exact (List.map_inj_right (fun a b e => Int.ofNat.inj (Sum.inr.inj e))).mp h
theorem itemsAre_nats {w : World} : ∀ {vs : List Value} {ks : List Nat}, NatsAre vs ks → ItemsAre (mixKind PySem.Challenge.rw_rg0118_01.row.prog w) (ks.map fun k : Nat => .inr (k : Int)) vs
  := by
  intro vs ks (h : Paired (fun v (k : Nat) => ∃ t, v = .int (k : Int) t) vs ks)
  induction h with
  | nil => exact .nil
  | cons h _ ih => obtain ⟨t, e⟩ := h; exact .cons (by subst e; simp [mixKind, isMix, Value.isInt]) ih
noncomputable def NdAt (news : Led) (a : Addr) (n : Nd) : Prop := Ex2 fun t vs => And2 ((a, tupO (.str n.1 t :: vs)) ∈ news) (NatsAre vs n.2)
theorem NdAt.mono {news news' : Led} {a : Addr} {n : Nd} (h : NdAt news a n) (k : ∀ p ∈ news, p ∈ news') : NdAt news' a n := let ⟨t, vs, h1, h2⟩ := h; ⟨t, vs, k _ h1, h2⟩
theorem NdAt.key {w : World} {h₀ h : Heap} {L : Addr} {news : Led} {a : Addr} {n : Nd} (x : NdAt news a n) (N : News h₀ L h news) : (tupK w).is h n.key a := by
  obtain ⟨t, vs, hm, hi⟩ := x
  exact ⟨_, _, 0, (N _ hm).1, rfl, rfl, .cons (by simp [mixKind, isMix, Value.isStrOf]) (itemsAre_nats hi)⟩
noncomputable def NdDict (w : World) (o : Obj) (xs : List (Nd × Addr × Value)) : Prop := Ex2 fun es ep => And4 (o.ExactDict) (o.data = .dict es ep) (es.toList = xs.map (fun x => entryOfKey (tupK w) (x.1.key, x.2))) ((xs.map (·.1)).Nodup)
noncomputable def kx (xs : List (Nd × Addr × Value)) : List (List MK × Addr × Value) := xs.map fun x => (x.1.key, x.2)
theorem atKey_kx (xs : List (Nd × Addr × Value)) (n : Nd) : atKey (kx xs) n.key = (xs.find? fun x => x.1 = n).map (·.2) := by
  unfold atKey kx
  induction xs with
  | nil => rfl
  | cons x r ih =>
    rw [List.map_cons, List.find?_cons, List.find?_cons]
    by_cases h : x.1 = n
    · simp [h]
    · have h' : ¬ x.1.key = n.key := fun e => h (Nd.key_inj e)
      simp only [h, h', decide_false]
      exact ih
theorem NdDict.at {w : World} {h₀ h : Heap} {L d : Addr} {news : Led} {o : Obj} {xs : List (Nd × Addr × Value)} (D : NdDict w o xs) (N : News h₀ L h news) (hd : (d, o) ∈ news) (hk : ∀ x ∈ xs, NdAt news x.2.1 x.1) : h.DictOfH (tupK w) d (kx xs) := by
  obtain ⟨es, ep, h1, h2, h3, h4⟩ := D
  refine ⟨o, es, ep, (N _ hd).1, h1, h2, by rw [h3, kx, List.map_map]; rfl, ?_, ?_⟩
  · intro y hy
    obtain ⟨x, hx, rfl⟩ := List.mem_map.mp hy
    exact (hk x hx).key N
  · rw [kx, List.map_map]
    have : (xs.map ((fun x : List MK × Addr × Value => x.1) ∘ fun x => (x.1.key, x.2))) = (xs.map (·.1)).map Nd.key := by rw [List.map_map]; rfl
    rw [this]
    exact List.Pairwise.map _ (fun a b hab e => hab (Nd.key_inj e)) h4
theorem NdDict.nil {w : World} {o : Obj} (h : o.IsDictOf (PySem.strKind PySem.Challenge.rw_rg0118_01.row.prog w) []) : NdDict w o [] := by
  obtain ⟨es, ep, h1, h2, h3, h4, h5⟩ := h
  refine ⟨es, ep, h1, h2, ?_, List.nodup_nil⟩
  cases q : es.toList with
  | nil => rfl
  | cons e r => rw [q] at h4; cases h4

end

section
set_option maxHeartbeats 4000000
noncomputable def NumDict (w : World) (o : Obj) (news : Led) (ns : List Nd) : Prop :=
  Ex1 fun xs => And4 (NdDict w o xs) (xs.map (·.1) = ns) (∀ x ∈ xs, NdAt news x.2.1 x.1) (∀ (i : Nat) (x : Nd × Addr × Value), xs[i]? = some x → ∃ t, x.2.2 = .int (i : Int) t)
theorem NumDict.mono {w : World} {o : Obj} {news news' : Led} {ns : List Nd} (h : NumDict w o news ns) (k : ∀ p ∈ news, p ∈ news') : NumDict w o news' ns :=
  let ⟨xs, h1, h2, h3, h4⟩ := h; ⟨xs, h1, h2, fun x hx => (h3 x hx).mono k, h4⟩
theorem find_at {xs : List (Nd × Addr × Value)} {ns : List Nd} (h : xs.map (·.1) = ns) (hn : ns.Nodup) {i : Nat} {n : Nd} (hi : ns[i]? = some n) : Ex1 fun x => And3 (xs[i]? = some x) (x.1 = n) ((xs.find? fun x => x.1 = n) = some x) := by
  subst h
  rw [List.getElem?_map, Option.map_eq_some_iff] at hi
  obtain ⟨x, hx, rfl⟩ := hi
  refine ⟨x, hx, rfl, ?_⟩
  induction xs generalizing i with
  | nil => simp at hx
  | cons y r ih =>
    rw [List.find?_cons]
    rw [List.map_cons, List.nodup_cons] at hn
    cases i with
    | zero => simp at hx; subst hx; simp
    | succ i =>
      simp only [List.getElem?_cons_succ] at hx
      have : ¬ y.1 = x.1 := fun e => hn.1 (e ▸ List.mem_map.mpr ⟨x, List.mem_of_getElem? hx, rfl⟩)
      simp only [this, decide_false]
      exact ih hn.2 hx
theorem find_none {xs : List (Nd × Addr × Value)} {n : Nd} (h : n ∉ xs.map (·.1)) : (xs.find? fun x => x.1 = n) = none := by
  rw [List.find?_eq_none]
  intro x hx e
  exact h (List.mem_map.mpr ⟨x, hx, of_decide_eq_true e⟩)
theorem stored_kx {xs : List (Nd × Addr × Value)} {n : Nd} {a : Addr} {v : Value} (h : n ∉ xs.map (·.1)) : storedH (kx xs) n.key a v = kx (xs ++ [(n, a, v)]) := by
  rw [storedH_new (by rw [atKey_kx, find_none h]; rfl)]
  simp [kx]
section
variable {w : World} {A : Around} {E : Value → Shared → Prop} {s : Shared} {h₀ : Heap} {L d a : Addr} {m : Str → Option Value} {news : Led} {o : Obj} {ns : List Nd} {n : Nd}
theorem num_in {Q : Value → Shared → Prop} (N : News h₀ L s.heap news) (hd : (d, o) ∈ news) (D : NumDict w o news ns) (ha : NdAt news a n) (lo : (d == sysModules) = false) (hu : A.units + 1 < cLine)
    (h : Q (.bool (decide (n ∈ ns))) { s with toks := s.toks + ((tupK w).draws n.key) }) : wpAny (model PySem.Challenge.rw_rg0118_01.row.prog w) A (compareOp .In (.ref a) (.ref d)) Q E s := by
  obtain ⟨xs, h1, h2, h3, h4⟩ := D
  refine wpAny_in_heap (knd := tupK w) (tupleKind_room_in1 hu) (ha.key N) lo (h1.at N hd h3) ?_
  have : (atKey (kx xs) n.key).isSome = decide (n ∈ ns) := by
    rw [atKey_kx, ← h2]
    by_cases hm : n ∈ xs.map (·.1)
    · rw [decide_eq_true hm, Option.isSome_map]
      obtain ⟨x, hx, rfl⟩ := List.mem_map.mp hm
      rw [List.find?_isSome]
      exact ⟨x, hx, by simp⟩
    · rw [decide_eq_false hm, find_none hm]; rfl
  rw [this]; exact h
theorem num_item {value slice : PySem.Expr} {i : Nat} {Q : Value → Shared → Prop} (N : News h₀ L s.heap news) (hd : (d, o) ∈ news) (D : NumDict w o news ns) (ha : NdAt news a n) (hn : ns.Nodup) (hi : ns[i]? = some n) (hu : A.units + 1 < cLine)
    (h : ∀ t tk, Q (.int (i : Int) t) { s with toks := tk })
    (hs : subscripted slice false (.ref d) (.ref a) = operate [.ref d, .ref a] (getItem (.ref d) (.ref a))) :
    wpAny (model PySem.Challenge.rw_rg0118_01.row.prog w) A (subscriptTail value slice (.ref d) (.ref a)) Q E s := by
  obtain ⟨xs, h1, h2, h3, h4⟩ := D
  have hD := h1.at N hd h3
  obtain ⟨x, hx, rfl, hf⟩ := find_at h2 hn hi
  obtain ⟨t, ht⟩ := h4 i x hx
  refine tail_any hD.typeIs slot_dict_getitem.lookup (wpAny_getItem_heap (knd := tupK w) (tupleKind_room_in1 hu) (ha.key N) hD (p := x.2) (by rw [atKey_kx, hf]; rfl) ?_) hs
  rw [ht]; exact h t _
theorem NumDict.snoc {h' : Heap} {xs : List (Nd × Addr × Value)} {t : Tok} (h1 : xs.map (·.1) = ns) (h3 : ∀ x ∈ xs, NdAt news x.2.1 x.1) (h4 : ∀ (i : Nat) (x : Nd × Addr × Value), xs[i]? = some x → ∃ t, x.2.2 = .int (i : Int) t) (ha : NdAt news a n)
    (hD : h'.DictOfH (tupK w) d (kx (xs ++ [(n, a, .int (ns.length : Int) t)]))) : ∃ o', h'.get? d = some o' ∧ NumDict w o' news (ns ++ [n]) := by
  obtain ⟨o', es, ep, ho, he, hd, hes, _, hnd⟩ := hD
  refine ⟨o', ho, xs ++ [(n, a, .int (ns.length : Int) t)], ⟨es, ep, he, hd, by rw [hes, kx, List.map_map]; rfl, ?_⟩, by rw [List.map_append, h1]; rfl, ?_, ?_⟩
  · rw [kx, List.map_map] at hnd
    have : ((xs ++ [(n, a, Value.int (ns.length : Int) t)]).map ((fun x : List MK × Addr × Value => x.1) ∘ fun x => (x.1.key, x.2))) = ((xs ++ [(n, a, Value.int (ns.length : Int) t)]).map (·.1)).map Nd.key := by rw [List.map_map]; rfl
    rw [this] at hnd
    exact List.Pairwise.imp (fun hne e => hne (by rw [e])) (List.pairwise_map.mp hnd)
  · intro x hx
    rcases List.mem_append.mp hx with hx | hx
    · exact h3 x hx
    · rw [List.mem_singleton.mp hx]; exact ha
  · intro i x hx
    rw [List.getElem?_append] at hx
    split at hx
    · exact h4 i x hx
    · rename_i hlt
      have hl : xs.length = ns.length := by rw [← h1, List.length_map]
      have : i = xs.length := by
        have := (List.getElem?_eq_some_iff.mp hx).1
        simp at this; omega
      subst this
      simp at hx; subst hx
      exact ⟨t, by rw [hl]⟩
theorem num_set {g : Obj → Led} {t : Tok} {Q : Unit → Shared → Prop} (F : Fr h₀ L s.heap m) (N : News h₀ L s.heap news) (U : UpdF d o news g) (D : NumDict w o news ns) (ha : NdAt news a n) (hn : n ∉ ns) (hl : ns.length ≤ 1000) (hu : A.units + 1 < cLine)
    (h : ∀ h' o' tk, Fr h₀ L h' m → News h₀ L h' (g o') → NumDict w o' news (ns ++ [n]) → Q () { s with heap := h', toks := tk }) :
    wpAny (model PySem.Challenge.rw_rg0118_01.row.prog w) A (setItem (.ref d) (.ref a) (.int (ns.length : Int) t)) Q E s := by
  obtain ⟨pre, post, rfl, hg, b1, b2⟩ := U.split
  have hm := N (d, o) (List.mem_append_right _ (.head _))
  obtain ⟨xs, h1, h2, h3, h4⟩ := D
  have hxl : xs.length = ns.length := by rw [← h2, List.length_map]
  refine wpAny_setItem_heap (knd := tupK w) (hsz := by rw [kx, List.length_map, hxl, sizeLine_eq]; omega) (tupleKind_room_in1 hu) (ha.key N) (h1.at N (List.mem_append_right _ (.head _)) h3) fun h' hD hs => ?_
  rw [stored_kx (by rw [h2]; exact hn)] at hD
  obtain ⟨o', ho', hN'⟩ := NumDict.snoc h2 h3 h4 ha hD
  exact h h' o' _ (F.change hs hm.2.1 hm.2.2) (hg o' ▸ N.setIn b1 b2 hs ho') hN'
theorem num_setdef {g : Obj → Led} {t : Tok} {Q : Value → Shared → Prop} (F : Fr h₀ L s.heap m) (N : News h₀ L s.heap news) (U : UpdF d o news g) (D : NumDict w o news ns) (ha : NdAt news a n) (hn : n ∉ ns) (hl : ns.length ≤ 1000) (lo : (d == sysModules) = false) (hu : A.units + 1 < cLine)
    (h : ∀ h' o' tk, Fr h₀ L h' m → News h₀ L h' (g o') → NumDict w o' news (ns ++ [n]) → Q (.int (ns.length : Int) t) { s with heap := h', toks := tk }) :
    wpAny (model PySem.Challenge.rw_rg0118_01.row.prog w) A (call (.builtin "dict.setdefault") [.ref d, .ref a, .int (ns.length : Int) t]) Q E s := by
  obtain ⟨pre, post, rfl, hg, b1, b2⟩ := U.split
  have hm := N (d, o) (List.mem_append_right _ (.head _))
  obtain ⟨xs, h1, h2, h3, h4⟩ := D
  have hxl : xs.length = ns.length := by rw [← h2, List.length_map]
  have hD := h1.at N (List.mem_append_right _ (.head _)) h3
  have hk := ha.key (w := w) N
  have hroom : (tupK w).room A.in1 := tupleKind_room_in1 hu
  obtain ⟨oD, es, ep, ho, hc, hd, he, his, hnd⟩ := id hD
  refine wpAny_call_entry PySem.F.slot_dict_setdefault hD.typeIs PySem.F.entry_dict_setdefault ?_ (PySem.F.args_dict_setdefault_3 _ _ _)
  unfold Builtin.«dict.setdefault»
  refine wpAny_bind ?_
  unfold Builtin.Dict.keyAndDefault
  refine wpAny_bind (wpAny_notOrdered_dict hD.typeIs ?_)
  show wpAny _ _ (pure (d, Value.ref a, some (Value.int (ns.length : Int) t))) _ _ s
  refine wpAny_pure ?_
  show wpAny _ _ (if (d == sysModules) = true then _ else (dictSetDefault d (.ref a) (.int (ns.length : Int) t) >>= _)) _ _ s
  rw [if_neg (by rw [lo]; exact Bool.false_ne_true)]
  refine wpAny_bind ?_
  unfold dictSetDefault
  try with_reducible refine wpAny_holding ?_
  refine wpAny_bind ((tupK w).pyHash hroom hk ?_)
  have hnk : ∀ (j : Nat) (p : Addr × Value), (kx xs)[j]? ≠ some (n.key, p) := by
    intro j p hj
    rw [kx, List.getElem?_map, Option.map_eq_some_iff] at hj
    obtain ⟨x, hx, e⟩ := hj
    have e1 : x.1 = n := Nd.key_inj (congrArg Prod.fst e)
    exact hn (by rw [← h2]; exact List.mem_map.mpr ⟨x, List.mem_of_getElem? hx, e1⟩)
  refine wpAny_bind (wpAny_dictFind_heap (s := { s with toks := s.toks + (tupK w).draws n.key }) hroom hk ho hd he his hnd (fun _ => ?_) (fun j p hj => absurd hj (hnk j p)))
  have hsz : es.size ≤ sizeLine := by
    have e := size_of_entries he
    rw [e, kx, List.length_map, hxl, sizeLine_eq]; omega
  have fin : ∀ h', h'.DictOfH (tupK w) d (storedH (kx xs) n.key a (.int (ns.length : Int) t)) → Heap.SameBut d s.heap h' → Q (.int (ns.length : Int) t) { s with heap := h', toks := s.toks + (tupK w).draws n.key } := by
    intro h' hD hs
    rw [stored_kx (by rw [h2]; exact hn)] at hD
    obtain ⟨o', ho', hN'⟩ := NumDict.snoc h2 h3 h4 ha hD
    exact h h' o' _ (F.change hs hm.2.1 hm.2.2) (hg o' ▸ N.setIn b1 b2 hs ho') hN'
  have hnot : n.key ∉ (kx xs).map (·.1) := not_mem_keys_of_get hnk
  refine wpAny_bind (wpAny_rule (wpAny_bind (wpAny_updateDictKeys (hz := hsz) (s := { s with toks := s.toks + (tupK w).draws n.key }) ho hd (wpAny_pure (wpAny_pure ⟨_, rfl, fin _ ⟨_, _, ep + 1, Heap.get?_update_self _ ho (Obj.isFreed_of_dict (Obj.data_mapDictKeys hd _)),
      hc.mapDictKeys _, Obj.data_mapDictKeys hd _, ?_, ?_, ?_⟩ (Heap.SameBut.update ..)⟩)))))
  · rw [storedH_new (atKey_none_of_get hnk)]
    simp [he, entryOfKey]
  · rw [storedH_new (atKey_none_of_get hnk)]
    intro x hx
    rcases List.mem_append.mp hx with hx | hx
    · exact (tupK w).keeps (his x hx) ho hd (Heap.SameBut.update ..)
    · rw [List.mem_singleton.mp hx]
      exact (tupK w).keeps hk ho hd (Heap.SameBut.update ..)
  · rw [storedH_new (atKey_none_of_get hnk)]
    rw [List.map_append, List.nodup_append]
    refine ⟨hnd, by simp, ?_⟩
    intro x hx y hy
    simp only [List.map_cons, List.map_nil, List.mem_singleton] at hy
    subst hy
    exact fun e => hnot (e ▸ hx)
variable {x : Str} {ks : List Nat} {tx : Tok} {vs : List Value} {rest : Led}
theorem num_in' {Q : Value → Shared → Prop} (N : News h₀ L s.heap news) (hd : (d, o) ∈ news) (D : NumDict w o rest ns) (hsub : ∀ p ∈ rest, p ∈ news) (ha : (a, tupO (.str x tx :: vs)) ∈ news) (hks : NatsAre vs ks) (lo : (d == sysModules) = false) (hu : A.units + 1 < cLine)
    (h : ∀ tk, Q (.bool (decide ((x, ks) ∈ ns))) { s with toks := tk }) : wpAny (model PySem.Challenge.rw_rg0118_01.row.prog w) A (compareOp .In (.ref a) (.ref d)) Q E s :=
  num_in N hd (D.mono hsub) (n := (x, ks)) ⟨_, _, ha, hks⟩ lo hu (h _)
theorem num_item' {value slice : PySem.Expr} {i : Nat} {Q : Value → Shared → Prop} (N : News h₀ L s.heap news) (hd : (d, o) ∈ news) (D : NumDict w o rest ns) (hsub : ∀ p ∈ rest, p ∈ news) (ha : (a, tupO (.str x tx :: vs)) ∈ news) (hks : NatsAre vs ks) (hn : ns.Nodup) (hi : ns[i]? = some (x, ks)) (hu : A.units + 1 < cLine)
    (h : ∀ t tk, Q (.int (i : Int) t) { s with toks := tk })
    (hs : subscripted slice false (.ref d) (.ref a) = operate [.ref d, .ref a] (getItem (.ref d) (.ref a))) :
    wpAny (model PySem.Challenge.rw_rg0118_01.row.prog w) A (subscriptTail value slice (.ref d) (.ref a)) Q E s :=
  num_item N hd (D.mono hsub) (n := (x, ks)) ⟨_, _, ha, hks⟩ hn hi hu h hs
theorem num_set' {g : Obj → Led} {t : Tok} {j : Int} {Q : Unit → Shared → Prop} (F : Fr h₀ L s.heap m) (N : News h₀ L s.heap news) (U : UpdF d o news g) (D : NumDict w o rest ns) (hsub : ∀ p ∈ rest, p ∈ news) (ha : (a, tupO (.str x tx :: vs)) ∈ news) (hks : NatsAre vs ks) (hn : (x, ks) ∉ ns) (hl : ns.length ≤ 1000) (hu : A.units + 1 < cLine) (hj : j = (ns.length : Int))
    (h : ∀ h' o' tk, Fr h₀ L h' m → News h₀ L h' (g o') → NumDict w o' news (ns ++ [(x, ks)]) → Q () { s with heap := h', toks := tk }) :
    wpAny (model PySem.Challenge.rw_rg0118_01.row.prog w) A (setItem (.ref d) (.ref a) (.int j t)) Q E s := by
  subst hj
  exact num_set F N U (D.mono hsub) (n := (x, ks)) ⟨_, _, ha, hks⟩ hn hl hu h
theorem num_setdef' {g : Obj → Led} {t : Tok} {j : Int} {Q : Value → Shared → Prop} (F : Fr h₀ L s.heap m) (N : News h₀ L s.heap news) (U : UpdF d o news g) (D : NumDict w o rest ns) (hsub : ∀ p ∈ rest, p ∈ news) (ha : (a, tupO (.str x tx :: vs)) ∈ news) (hks : NatsAre vs ks) (hn : (x, ks) ∉ ns) (hl : ns.length ≤ 1000) (lo : (d == sysModules) = false) (hu : A.units + 1 < cLine) (hj : j = (ns.length : Int))
    (h : ∀ h' o' tk, Fr h₀ L h' m → News h₀ L h' (g o') → NumDict w o' news (ns ++ [(x, ks)]) → Q (.int j t) { s with heap := h', toks := tk }) :
    wpAny (model PySem.Challenge.rw_rg0118_01.row.prog w) A (call (.builtin "dict.setdefault") [.ref d, .ref a, .int j t]) Q E s := by
  subst hj
  exact num_setdef F N U (D.mono hsub) (n := (x, ks)) ⟨_, _, ha, hks⟩ hn hl lo hu h
end

end

section
set_option maxHeartbeats 4000000
noncomputable def Idx (as : List Value) (n : Nat) : Prop := as.length = n ∧ ∀ (i : Nat) v, as[i]? = some v → ∃ t, v = .int (i : Int) t
theorem Idx.get {as : List Value} {n i : Nat} (h : Idx as n) (hi : i < n) : ∃ t, as[i]? = some (.int (i : Int) t) := by
  obtain ⟨h1, h2⟩ := h
  have : as[i]? = some as[i] := by simp [h1, hi]
  obtain ⟨t, e⟩ := h2 i _ this
  exact ⟨t, by rw [this, e]⟩
section
variable {prog : Program} {w : World} {A : Around} {E : Value → Shared → Prop} {s : Shared} {h₀ : Heap} {L : Addr} {l : Led}
theorem list_itemL {value slice : PySem.Expr} {a : Addr} {vs : List Value} {k i : Nat} {u : Tok} {v : Value} {Q : Value → Shared → Prop} (N : News h₀ L s.heap l) (hl : (a, W.listOf vs.toArray k) ∈ l) (hv : vs[i]? = some v) (hb : i ≤ 1000) (h : Q v s)
    (hs : subscripted slice false (.ref a) (.int (i : Int) u) = operate [.ref a, .int (i : Int) u] (getItem (.ref a) (.int (i : Int) u))) :
    wpAny (model prog w) A (subscriptTail value slice (.ref a) (.int (i : Int) u)) Q E s := by
  have hL : s.heap.IsList a vs.toArray := ⟨_, (N _ hl).1, rfl, k, rfl⟩
  exact tail_any hL.typeIs slot_list_getitem.lookup (wpAny_getItem_list hL (by omega) (by omega) (x := v) (by simpa using hv) h) hs
theorem len_listL {a : Addr} {vs : List Value} {k : Nat} {Q : Value → Shared → Prop} (N : News h₀ L s.heap l) (hl : (a, W.listOf vs.toArray k) ∈ l) (hb : vs.length ≤ 1000) (h : Q (.int (vs.length : Int) (s.toks + 1)) { s with toks := s.toks + 1 + 1 }) :
    wpAny (model prog w) A (call (.builtin "len") [.ref a]) Q E s :=
  len_list ⟨_, (N _ hl).1, rfl, k, rfl⟩ (by simp; omega) (by simpa using h)
end

end
theorem ln_HD_32 : True := by
  k_with "subscriptTail" => (k_here; (with_reducible show wpAny _ _ (subscriptTail _ _ (Value.ref _) (Value.int _ _)) _ _ _); k_dflt (refine' list_itemL ?Nq9 ?lq9 ?vq9 ?bq9 ?_ ?sq9; (case Nq9 => k_asm); (case lq9 => k_mem); (case vq9 => assumption); (case bq9 => omega); (case sq9 => with_unfolding_all rfl)))
  exact True.intro
section
set_option maxHeartbeats 4000000
theorem ufind_spec (w : World) (news : Led) (U Ud ab lt mg : Nat) (tU : Nat → Tok) (nU k : Nat) (as : List Value) (n i : Nat) (t : Tok) (hU : (U, W.instObj 292 Ud) ∈ news) (hUd : (Ud, unionsD w tU ab lt mg nU) ∈ news) (hab : (ab, W.listOf as.toArray k) ∈ news) (hI : Idx as n) (hi : i < n) (hn : n ≤ 30) :
    Fn w 249 4 [.ref U, .int (i : Int) t] news (fun news' r => news' = news ∧ r = .int (i : Int) t) := by
  obtain ⟨t', hv⟩ := hI.get hi
  have hii : (i : Int) = (i : Int) := rfl
  (w_top off; unfold Fn; intro loose mean mg mb dp un gd cn cs a9 ccd cl outer A₀ base h₀ L m s Q E B F X N T hk hdp hun hret; (have kf : KF (rgTop.heap_1 w.params) PySem.Challenge.rw_rg0118_01 := (by k_fill; trivial)); clear kf; refine wpAny_call ?_; k_dflt ktr_enter)
  ((try k_fold); k_steps)
  refine while_ind (fun n s' => n = 1 ∧ s' = _) ?_ 1 ⟨rfl, rfl⟩
  rintro n s' ⟨rfl, rfl⟩
  ((try k_fold); k_steps)
  · exact absurd hii (by assumption)
  · exact hret _ _ _ _ _ (by assumption) (by assumption) ⟨rfl, rfl⟩

end
theorem ln_HD_33 : True := by
  k_with "call builtin:len" => (k_here; (with_reducible show wpAny _ _ (call (Value.builtin _) [Value.ref _]) _ _ _); k_dflt (refine' len_listL ?Nq9 ?mq9 ?bq9 ?_; (case Nq9 => k_asm); (case mq9 => k_mem); (case bq9 => first | assumption | omega | ((try simp only [List.length_append, List.length_cons, List.length_nil]); omega))))
  exact True.intro
section
set_option maxHeartbeats 4000000
theorem bsize_spec (w : World) (news : Led) (B Bd nl nd wl dl : Nat) (tB : Nat → Tok) (nB k : Nat) (nv : List Value) (hB : (B, W.instObj 186 Bd) ∈ news) (hBd : (Bd, bankD w tB nl nd wl dl nB) ∈ news) (hn : (nl, W.listOf nv.toArray k) ∈ news) (hb : nv.length ≤ 1000) :
    Fn w 105 2 [.ref B] news (fun news' r => news' = news ∧ ∃ t, r = .int (nv.length : Int) t) := by
  (w_top off; unfold Fn; intro loose mean mg mb dp un gd cn cs a9 ccd cl outer A₀ base h₀ L m s Q E B F X N T hk hdp hun hret; (have kf : KF (rgTop.heap_1 w.params) PySem.Challenge.rw_rg0118_01 := (by k_fill; trivial)); clear kf; refine wpAny_call ?_; k_dflt ktr_enter)
  ((try k_fold); k_steps)
  exact hret _ _ _ _ _ (by assumption) (by assumption) ⟨rfl, _, rfl⟩
theorem usize_spec (w : World) (news : Led) (U Ud ab lt mg : Nat) (tU : Nat → Tok) (nU k : Nat) (as : List Value) (hU : (U, W.instObj 292 Ud) ∈ news) (hUd : (Ud, unionsD w tU ab lt mg nU) ∈ news) (hab : (ab, W.listOf as.toArray k) ∈ news) (hb : as.length ≤ 1000) :
    Fn w 242 2 [.ref U] news (fun news' r => news' = news ∧ ∃ t, r = .int (as.length : Int) t) := by
  (w_top off; unfold Fn; intro loose mean mg mb dp un gd cn cs a9 ccd cl outer A₀ base h₀ L m s Q E B F X N T hk hdp hun hret; (have kf : KF (rgTop.heap_1 w.params) PySem.Challenge.rw_rg0118_01 := (by k_fill; trivial)); clear kf; refine wpAny_call ?_; k_dflt ktr_enter)
  ((try k_fold); k_steps)
  exact hret _ _ _ _ _ (by assumption) (by assumption) ⟨rfl, _, rfl⟩
theorem bop_spec (w : World) (news : Led) (B Bd nl nd wl dl : Nat) (tB : Nat → Tok) (nB k : Nat) (nv : List Value) (i : Nat) (t : Tok) (ad : Addr) (x : Str) (tx : Tok) (kvs : List Value) (hB : (B, W.instObj 186 Bd) ∈ news) (hBd : (Bd, bankD w tB nl nd wl dl nB) ∈ news) (hn : (nl, W.listOf nv.toArray k) ∈ news) (hb : i ≤ 1000) (hv : nv[i]? = some (.ref ad)) (hm : (ad, tupO (.str x tx :: kvs)) ∈ news) :
    Fn w 143 2 [.ref B, .int (i : Int) t] news (fun news' r => news' = news ∧ r = .str x tx) := by
  (w_top off; unfold Fn; intro loose mean mg mb dp un gd cn cs a9 ccd cl outer A₀ base h₀ L m s Q E B F X N T hk hdp hun hret; (have kf : KF (rgTop.heap_1 w.params) PySem.Challenge.rw_rg0118_01 := (by k_fill; trivial)); clear kf; refine wpAny_call ?_; k_dflt ktr_enter)
  ((try k_fold); k_steps)
  exact hret _ _ _ _ _ (by assumption) (by assumption) ⟨rfl, rfl⟩
theorem bkids_spec (w : World) (news : Led) (B Bd nl nd wl dl : Nat) (tB : Nat → Tok) (nB k : Nat) (nv : List Value) (i : Nat) (t : Tok) (ad : Addr) (x : Str) (tx : Tok) (kvs : List Value) (hB : (B, W.instObj 186 Bd) ∈ news) (hBd : (Bd, bankD w tB nl nd wl dl nB) ∈ news) (hn : (nl, W.listOf nv.toArray k) ∈ news) (hb : i ≤ 1000) (hv : nv[i]? = some (.ref ad)) (hm : (ad, tupO (.str x tx :: kvs)) ∈ news) (hl : kvs.length < 1000) :
    Fn w 150 2 [.ref B, .int (i : Int) t] news (fun news' r => Ex1 fun (D : Nat) => And3 (news' = (D, tupO kvs) :: news) (r = .ref D) (∀ p ∈ news, @LT.lt Nat _ p.1 D)) := by
  (w_top off; unfold Fn; intro loose mean mg mb dp un gd cn cs a9 ccd cl outer A₀ base h₀ L m s Q E B F X N T hk hdp hun hret; (have kf : KF (rgTop.heap_1 w.params) PySem.Challenge.rw_rg0118_01 := (by k_fill; trivial)); clear kf; refine wpAny_call ?_; k_dflt ktr_enter)
  ((try k_fold); k_steps)
  exact hret _ _ _ _ _ (by assumption) (by assumption) ⟨_, rfl, rfl, by first | assumption | exact AllLt.mem (by assumption)⟩

end
theorem ln_HD_34 : True := by
  k_with "call ref" => (k_here; (with_reducible show wpAny _ _ (call (Value.ref 249) [_, _]) _ _ _); k_dflt (refine' Fn.useK ?kCq9 ?kBq9 ?kFq9 ?kXq9 ?kNq9 ?kTq9 ?kkq9 ?kdq9 ?kuq9 ?_; (case kBq9 => k_asm); (case kFq9 => k_asm); (case kXq9 => k_asm); (case kNq9 => k_asm); (case kTq9 => k_asm); (case kkq9 => first | exact rfl | assumption); (case kCq9 => exact (ufind_spec _ _ _ _ _ _ _ _ _ _ _ _ _ _ (by k_mem) (by k_mem) (by k_mem) (by assumption) (by omega) (by omega))); (case kdq9 => ktr_room); (case kuq9 => ktr_units)); (intro KQ9q9 hKQ9q9 _ _ _ _ _ _ _ P9q9); (obtain ⟨e1q9, e2q9⟩ := P9q9); (replace e1q9 := Eq.symm e1q9); (subst e1q9); (try subst e2q9); (refine hKQ9q9 _ _ _ _ ?_); (clear hKQ9q9 KQ9q9); (try dsimp only))
  k_with "call ref" => (k_here; (with_reducible show wpAny _ _ (call (Value.ref 105) _) _ _ _); k_dflt (refine' Fn.useK ?kCq9 ?kBq9 ?kFq9 ?kXq9 ?kNq9 ?kTq9 ?kkq9 ?kdq9 ?kuq9 ?_; (case kBq9 => k_asm); (case kFq9 => k_asm); (case kXq9 => k_asm); (case kNq9 => k_asm); (case kTq9 => k_asm); (case kkq9 => first | exact rfl | assumption); (case kCq9 => exact (bsize_spec _ _ _ _ _ _ _ _ _ _ _ _ (by k_mem) (by k_mem) (by k_mem) (by first | assumption | omega))); (case kdq9 => ktr_room); (case kuq9 => ktr_units)); (intro KQ9q9 hKQ9q9 _ _ _ _ _ _ _ P9q9); (obtain ⟨e1q9, _, e2q9⟩ := P9q9); (replace e1q9 := Eq.symm e1q9); (subst e1q9); (try subst e2q9); (refine hKQ9q9 _ _ _ _ ?_); (clear hKQ9q9 KQ9q9); (try dsimp only))
  k_with "call ref" => (k_here; (with_reducible show wpAny _ _ (call (Value.ref 242) _) _ _ _); k_dflt (refine' Fn.useK ?kCq9 ?kBq9 ?kFq9 ?kXq9 ?kNq9 ?kTq9 ?kkq9 ?kdq9 ?kuq9 ?_; (case kBq9 => k_asm); (case kFq9 => k_asm); (case kXq9 => k_asm); (case kNq9 => k_asm); (case kTq9 => k_asm); (case kkq9 => first | exact rfl | assumption); (case kCq9 => exact (usize_spec _ _ _ _ _ _ _ _ _ _ _ (by k_mem) (by k_mem) (by k_mem) (by first | assumption | omega))); (case kdq9 => ktr_room); (case kuq9 => ktr_units)); (intro KQ9q9 hKQ9q9 _ _ _ _ _ _ _ P9q9); (obtain ⟨e1q9, _, e2q9⟩ := P9q9); (replace e1q9 := Eq.symm e1q9); (subst e1q9); (try subst e2q9); (refine hKQ9q9 _ _ _ _ ?_); (clear hKQ9q9 KQ9q9); (try dsimp only))
  k_with "call ref" => (k_here; (with_reducible show wpAny _ _ (call (Value.ref 143) [_, _]) _ _ _); k_dflt (refine' Fn.useK ?kCq9 ?kBq9 ?kFq9 ?kXq9 ?kNq9 ?kTq9 ?kkq9 ?kdq9 ?kuq9 ?_; (case kBq9 => k_asm); (case kFq9 => k_asm); (case kXq9 => k_asm); (case kNq9 => k_asm); (case kTq9 => k_asm); (case kkq9 => first | exact rfl | assumption); (case kCq9 => exact (bop_spec _ _ _ _ _ _ _ _ _ _ _ _ _ _ _ _ _ _ (by k_mem) (by k_mem) (by k_mem) (by omega) (by assumption) (by k_mem))); (case kdq9 => ktr_room); (case kuq9 => ktr_units)); (intro KQ9q9 hKQ9q9 _ _ _ _ _ _ _ P9q9); (obtain ⟨e1q9, e2q9⟩ := P9q9); (replace e1q9 := Eq.symm e1q9); (subst e1q9); (try subst e2q9); (refine hKQ9q9 _ _ _ _ ?_); (clear hKQ9q9 KQ9q9); (try dsimp only))
  k_with "call ref" => ((((k_here; (with_reducible show wpAny _ _ (call (Value.ref 150) [_, _]) _ _ _); k_dflt (refine' Fn.useK ?kCq9 ?kBq9 ?kFq9 ?kXq9 ?kNq9 ?kTq9 ?kkq9 ?kdq9 ?kuq9 ?_; (case kBq9 => k_asm); (case kFq9 => k_asm); (case kXq9 => k_asm); (case kNq9 => k_asm); (case kTq9 => k_asm); (case kkq9 => first | exact rfl | assumption); (case kCq9 => exact (bkids_spec _ _ _ _ _ _ _ _ _ _ _ _ _ _ _ _ _ _ (by k_mem) (by k_mem) (by k_mem) (by omega) (by assumption) (by k_mem) (by omega))); (case kdq9 => ktr_room); (case kuq9 => ktr_units)); (intro KQ9q9 hKQ9q9 _ _ _ _ _ _ _ P9q9); (obtain ⟨_, e1q9, e2q9, l1q9⟩ := P9q9); (replace e1q9 := Eq.symm e1q9); (subst e1q9); (try subst e2q9); (refine hKQ9q9 _ _ _ _ ?_); (clear hKQ9q9 KQ9q9); (try dsimp only)); (try k_lt l1q9))) <;> walk_at "hide9a")
  exact True.intro
section
set_option maxHeartbeats 4000000
theorem hfind_spec (w : World) (news : Led) (H Hd B U ed fo kn av wt : Nat) (tH : Nat → Tok) (t0 : Tok) (nH : Nat) (Ud ab lt mg : Nat) (tU : Nat → Tok) (nU k : Nat) (as : List Value) (n i : Nat) (t : Tok) (hH : (H, W.instObj 424 Hd) ∈ news) (hHd : (Hd, heapD w tH B U ed fo kn av wt t0 nH) ∈ news) (hU : (U, W.instObj 292 Ud) ∈ news) (hUd : (Ud, unionsD w tU ab lt mg nU) ∈ news) (hab : (ab, W.listOf as.toArray k) ∈ news) (hI : Idx as n) (hi : i < n) (hn : n ≤ 30) :
    Fn w 346 6 [.ref H, .int (i : Int) t] news (fun news' r => news' = news ∧ r = .int (i : Int) t) := by
  (w_top off; unfold Fn; intro loose mean mg mb dp un gd cn cs a9 ccd cl outer A₀ base h₀ L m s Q E B F X N T hk hdp hun hret; (have kf : KF (rgTop.heap_1 w.params) PySem.Challenge.rw_rg0118_01 := (by k_fill; trivial)); clear kf; refine wpAny_call ?_; k_dflt ktr_enter)
  ((try k_fold); k_steps)
  exact hret _ _ _ _ _ (by assumption) (by assumption) ⟨rfl, rfl⟩

end
theorem ln_HD_35 : True := by
  k_with "call ref" => (k_here; (with_reducible show wpAny _ _ (call (Value.ref 346) [_, _]) _ _ _); k_dflt (refine' Fn.useK ?kCq9 ?kBq9 ?kFq9 ?kXq9 ?kNq9 ?kTq9 ?kkq9 ?kdq9 ?kuq9 ?_; (case kBq9 => k_asm); (case kFq9 => k_asm); (case kXq9 => k_asm); (case kNq9 => k_asm); (case kTq9 => k_asm); (case kkq9 => first | exact rfl | assumption); (case kCq9 => exact (hfind_spec _ _ _ _ _ _ _ _ _ _ _ _ _ _ _ _ _ _ _ _ _ _ _ _ _ (by k_mem) (by k_mem) (by k_mem) (by k_mem) (by k_mem) (by assumption) (by omega) (by omega))); (case kdq9 => ktr_room); (case kuq9 => ktr_units)); (intro KQ9q9 hKQ9q9 _ _ _ _ _ _ _ P9q9); (obtain ⟨e1q9, e2q9⟩ := P9q9); (replace e1q9 := Eq.symm e1q9); (subst e1q9); (try subst e2q9); (refine hKQ9q9 _ _ _ _ ?_); (clear hKQ9q9 KQ9q9); (try dsimp only))
  exact True.intro
section
set_option maxHeartbeats 4000000
theorem hnode_spec (w : World) (news : Led) (H Hd B U ed fo kn av wt : Nat) (tH : Nat → Tok) (t0 : Tok) (nH : Nat) (Ud ab lt mg : Nat) (tU : Nat → Tok) (nU k : Nat) (as : List Value) (n i : Nat) (t : Tok)
    (Bd nl nd wl dl : Nat) (tB : Nat → Tok) (nB k2 : Nat) (nv : List Value) (ad : Addr) (x : Str) (tx : Tok) (kvs : List Value) (ks : List Nat)
    (hH : (H, W.instObj 424 Hd) ∈ news) (hHd : (Hd, heapD w tH B U ed fo kn av wt t0 nH) ∈ news) (hU : (U, W.instObj 292 Ud) ∈ news) (hUd : (Ud, unionsD w tU ab lt mg nU) ∈ news) (hab : (ab, W.listOf as.toArray k) ∈ news) (hI : Idx as n) (hn : n ≤ 30)
    (hB : (B, W.instObj 186 Bd) ∈ news) (hBd : (Bd, bankD w tB nl nd wl dl nB) ∈ news) (hnl : (nl, W.listOf nv.toArray k2) ∈ news) (hb : i ≤ 1000) (hv : nv[i]? = some (.ref ad)) (hm : (ad, tupO (.str x tx :: kvs)) ∈ news) (hks : NatsAre kvs ks) (hlow : ∀ c ∈ ks, c < n) (hl : ks.length ≤ 2) :
    Fn w 322 12 [.ref H, .int (i : Int) t] news (fun news' r => Ex1 fun (D : Nat) => And3 (news' = (D, tupO (.str x tx :: kvs)) :: news) (r = .ref D) (∀ p ∈ news, @LT.lt Nat _ p.1 D)) := by
  have hkl : kvs.length < 1000 := by have := Paired.length hks; omega
  (w_top off; unfold Fn; intro loose mean mg mb dp un gd cn cs a9 ccd cl outer A₀ base h₀ L m s Q E B F X N T hk hdp hun hret; (have kf : KF (rgTop.heap_1 w.params) PySem.Challenge.rw_rg0118_01 := (by k_fill; trivial)); clear kf; refine wpAny_call ?_; k_dflt (refine' code_defC ?k1 ?k2 ?k3 ?k4 ?k5 ?kA ?kF ?kK ?k6 ?k7 ?k8 ?k9 ?kB ?kD ?_ ?c2 ?c3 ?c4; (case kA => exact rfl); (case kF => exact rfl); (case kK => assumption); (case k1 => k_asm); (case k2 => k_asm); (case k3 => k_asm); (case k4 => k_asm); (case k5 => k_asm); (case k6 => k_is); (case k7 => k_is); (case k8 => ktr_room); (case k9 => exact BindsTo.of_eq rfl); (case kB => exact rfl); (case kD => decide +kernel); (case c2 => exact rfl); (case c3 => exact rfl); (case c4 => exact rfl); k_whole; intro g' L' h' tk' cells' FG' F' N' Y' B' X' T' l1; (have l1b := tbn_up (ltN (Nat.lt_succ_self L')) (allLt_of l1)); (try simp only [AllLt, and_true] at l1b); (try k_lt l1); k_cells Y'; (try simp only [List.cons_append, List.nil_append] at N'); (try dsimp only); (try k_fold)))
  ((try k_fold); k_steps)
  rename_i okc dkc _ _ _ _ h8 tk8 dr8 D1 hE0 FE NE lD1 _ _ h9 tk9 dr9 F9 D2 N9 lD2
  clear FE NE
  refine ⟨D2, kvs, _, fun j ys nw => nw = (D2, tupO kvs) :: (D1, { cls := Value.type "tuple", data := Data.seq #[Value.str x tx] }) :: (L' + 1, okc) :: news ∧ ys = kvs.take j, rfl, F9, N9, .head _, Nat.le_of_lt hkl, ⟨rfl, by simp⟩, ?zb, ?zt, ?ze⟩
  case zb => (rintro j ys nw ⟨_, rfl⟩; rw [List.length_take]; exact Nat.min_le_left _ _)
  case zt =>
    rintro j v1 ys nw oI I C D' hh' tk' dr' mC E' hj ⟨rfl, rfl⟩ hsub V off hit
    obtain ⟨c, hc, t1, rfl⟩ := Paired.get hks hj
    have hcn : c < n := hlow c (List.mem_of_getElem? hc)
    refine cv_one V rfl rfl rfl fun h4 tk4 V4 => ?_
    obtain ⟨oC, hn4, N4⟩ := V4.led
    have F4 := V4.F
    ((try k_fold); k_steps)
    rename_i hA tkA drA FA NA
    refine ⟨_, _, _, _, _, rfl, V4.back hn4 FA NA (by k_mem) (by k_mem) (by (k_extra "sub9")) V4.offC V4.offD, fun _ h => h, off, rfl, ?_⟩
    rw [List.take_add_one, hj]; rfl
  case ze =>
    rintro Dc ys nw hc tkc drc Fc Nc offc ltc hsub ⟨rfl, rfl⟩
    rw [List.take_of_length_le (Nat.le_refl _)] at Nc
    cases kvs with
    | nil =>
      ((try k_fold); k_steps)
      exact hret _ ((D1, tupO [.str x tx]) :: news) _ _ _ (by assumption) (News_sub (by assumption) (by (k_extra "sub9"))) ⟨D1, rfl, rfl, lD1.2.mem⟩
    | cons y ws =>
      have hws : ws.length ≤ 1000 := by simp at hkl; omega
      ((try k_fold); k_steps)
      rename_i DX hX FX NX lX kFX kNX TcX kXX
      exact hret _ ((DX, tupO ([Value.str x tx] ++ y :: ws)) :: news) _ _ _ (by assumption) (News_sub (by assumption) (by (k_extra "sub9"))) ⟨DX, rfl, rfl, lX.2.2.2.2.2.mem⟩

end

section
set_option maxHeartbeats 4000000
open PyProof.Rows.LCg
section
variable {prog : Program} {w : World} {A : Around} {E : Value → Shared → Prop} {h₀ : Heap} {L C D : Addr} {m mC : Str → Option Value} {ys : List Value} {s : Shared} {env : Env}
theorem iter_str {x : Str} {t : Tok} {Q : Value → Shared → Prop}
    (hQ : ∀ (T : String) (o : Obj), (∀ A' : Around, A'.handled = none → Walks prog w A' s.heap.objs.size [s.heap.objs.size] [s.heap.objs.size] x.cps.size (SignAt x) (fun i h => h.IsStrIter s.heap.objs.size T x t i)) → (s.heap.push o).IsStrIter s.heap.objs.size T x t 0 →
      Q (.ref s.heap.objs.size) { s with heap := s.heap.push o }) : wpAny (model prog w) A (pyIter (.str x t)) Q E s := by
  cases ha : x.cps.all (· < 128)
  · exact wpAny_pyIter_wide ha (hQ _ _ (fun A' hA => Walks.strWide hA _ x t) ⟨_, Heap.get?_push_size _ rfl, rfl, rfl⟩)
  · exact wpAny_pyIter_ascii ha (hQ _ _ (fun A' hA => Walks.strAscii hA _ x t) ⟨_, Heap.get?_push_size _ rfl, rfl, rfl⟩)
theorem compK_str (_ : Fr h₀ L s.heap m) {elt it c : PySem.Expr} {xn : Str} {px : Pos} {scope : Scope} {pos : Pos} {cl : List (Str × Addr)} {Q : Value → Shared → Prop}
    (hh : A.handled = none) (hclos : closureFor scope env = pure cl) (hcell : ∀ y ∈ scope.names, y.2 ≠ .cell) (hkind : scope.kind = .function) (hnames : ∀ y ∈ scope.names, y.2 = .local → scope.names.lookup y.1 = some .local)
    (hs : ∀ x, foldedSetIterable it env x = pure x) (hxn : ∀ C, (compEnvC scope cl C env).kindOf xn = some .local)
    (h : wpAny (model prog w) A (eval it env) (fun xv s₁ => Hold (Ex5 fun (x : Str) (t : Tok) (l : Led) (kept : Led) (J : Nat → List Value → Led → Prop) => And9 (xv = .str x t) (Fr h₀ L s₁.heap m) (News h₀ L s₁.heap l) (∀ p ∈ kept, p ∈ l) (x.cps.size ≤ 1000) (J 0 [] l) (∀ i ys nw, J i ys nw → ys.length ≤ i) (∀ i (k : Nat) u ys nw zl C D h tk dr (mC : Str → Option Value) (E' : Value → Shared → Prop), x.cps[i]? = some k → J i ys nw → (∀ p ∈ kept, p ∈ nw) → CV h₀ L m C D (fun y => if y = xn then some (.str ⟨#[k]⟩ u) else mC y) ys (zl ++ nw) h → (∀ q ∈ zl, ∀ p ∈ nw, p.1 ≠ q.1) →
        wpAny (model prog w) A (isTrue c (compEnvC scope cl C env) (eval c (compEnvC scope cl C env))) (fun ok s₄ =>
          if ok = true then wpAny (model prog w) A (eval elt (compEnvC scope cl C env)) (CvE h₀ L m C D zl kept ys (J (i + 1)) s₁) E' s₄ else CvS h₀ L m C D zl kept ys (J (i + 1)) s₁ s₄) E' { s₁ with heap := h, toks := tk, drawn := dr }) (∀ D ys nw h tk dr, Fr h₀ L h m → News h₀ L h ((D, lst ys) :: nw) → (∀ p ∈ nw, p.1 ≠ D) → (∀ p ∈ l, p.1 < D) → (∀ p ∈ kept, p ∈ nw) → J x.cps.size ys nw → Q (.ref D) { s₁ with heap := h, toks := tk, drawn := dr }))) E s) :
    wpAny (model prog w) A (eval (.ListComp elt [⟨.Name xn px, it, [c], 0⟩] scope pos) env) Q E s := by
  rw [eval_ListComp]
  refine wpAny_comprehension_free (use := none) rfl hs hclos hkind hnames (wpAny_mono h (fun xv s₁ h₁ => ?_) fun _ _ e => e)
  obtain ⟨x, t, l, kept, J, rfl, F, N, hkl, hsz, hJ, hlen, hb, hQ⟩ := h₁
  refine iter_str fun T o hW hIt => ?_
  generalize hH : s₁.heap.push o = H at hIt ⊢
  have up : ∀ b o', s₁.heap.get? b = some o' → H.get? b = some o' := fun b o' e => hH ▸ Heap.get?_push_of_some _ e
  have hsz' : H.objs.size = s₁.heap.objs.size + 1 := by rw [← hH, Heap.size_push]
  have fr0 : h₀.get? s₁.heap.objs.size = none := by
    cases e : h₀.get? s₁.heap.objs.size with
    | none => rfl
    | some o' => exact absurd (Heap.lt_size (F.keep _ o' e)) (Nat.lt_irrefl _)
  have W := hW A hh
  have hat : ∀ {i : Nat} {h h' : Heap}, h.IsStrIter s₁.heap.objs.size T x t i → (∀ o, h.get? s₁.heap.objs.size = some o → h'.get? s₁.heap.objs.size = some o) → h'.IsStrIter s₁.heap.objs.size T x t i := fun st k => W.frame _ _ _ st fun b hb o e => by rw [List.mem_singleton.mp hb] at e ⊢; exact k o e
  refine comp_open (s₂ := { s₁ with heap := H }) (fun ys nw => (∀ p ∈ kept, p ∈ nw) ∧ J x.cps.size ys nw) (F.keeps up) (News.grown N up) (by show _ < H.objs.size; rw [hsz']; exact Nat.lt_succ_self _) hcell hkind (fun s' Q' E' k q => W.self 0 s' _ _ (hat hIt fun o e => k _ o e) q) (fun C D hC tk V hCI hDI k => ?_) (fun D ys nw hD tk dr F' N' o' lt' fin => hQ D ys nw hD tk dr F' N' o' lt' fin.1 fin.2)
  have hoffI : ∀ p ∈ l, p.1 ≠ s₁.heap.objs.size := fun p hp => Nat.ne_of_lt (Heap.lt_size (N p hp).1)
  have hIL : L ≠ s₁.heap.objs.size := Nat.ne_of_lt F.ns.lt
  refine cv_gen (s := { s₁ with heap := hC, toks := tk }) (pos := it.pos) (body := fun v => letOwnedTupleGo (PySem.Expr.Name xn px) (.ref s₁.heap.objs.size) v >>= fun _ => PySem.assign (PySem.Expr.Name xn px) (compEnvC scope cl C env) v >>= fun _ =>
        (forIn [c] true fun c r => if r = true then do let ok ← isTrue c (compEnvC scope cl C env) (eval c (compEnvC scope cl C env)); pure (ForInStep.yield ok) else pure (ForInStep.yield r)) >>= fun ok =>
        if ok = true then (eval elt (compEnvC scope cl C env) >>= fun x => call (.builtin "list.append") [.ref D, x] >>= fun _ => pure ()) >>= fun _ => again (.compLoop (.ListComp elt [⟨PySem.Expr.Name xn px, it, [c], 0⟩] scope pos) 0 (.ref s₁.heap.objs.size) (.ref D) (compEnvC scope cl C env))
        else again (.compLoop (.ListComp elt [⟨PySem.Expr.Name xn px, it, [c], 0⟩] scope pos) 0 (.ref s₁.heap.objs.size) (.ref D) (compEnvC scope cl C env))) (n := x.cps.size)
    (fun i s' => Ex7 fun ys nw h tk dr mC oI => And6 (s' = { s₁ with heap := h, toks := tk, drawn := dr }) (CV h₀ L m C D mC ys ((s₁.heap.objs.size, oI) :: nw) h) (h.IsStrIter s₁.heap.objs.size T x t i) (∀ p ∈ kept, p ∈ nw) (∀ p ∈ nw, p.1 ≠ s₁.heap.objs.size) (J i ys nw)) rfl rfl (compTurn_list _ _ _ _ _ _ _ _ _) rfl ?st ?sp ?s0
  case s0 =>
    obtain ⟨oI, heI, _⟩ := hat hIt fun o e => k _ o e
    exact ⟨[], l, hC, _, _, _, oI, rfl, V.add heI (Ne.symm hCI) (Ne.symm hDI) (Ne.symm hIL) fr0, hat hIt fun o e => k _ o e, hkl, hoffI, hJ⟩
  case st =>
    rintro i _ E' hi ⟨ys, nw, h, tk', dr, mC, oI, rfl, V', hit, hk', hoff, hJ'⟩
    refine W.item i _ _ _ hi hit fun v h₂ tk₂ hP hst₂ hk₂ => ?_
    obtain ⟨kc, u, hkc, rfl⟩ := hP
    refine ⟨_, rfl, ?_⟩
    have V₂ := (V'.sub (news' := nw) fun p hp => .tail _ hp).but (fun b o hb e => hk₂ b o (by simpa using hb) e) hCI hDI hIL fr0 hoff
    obtain ⟨oI₂, heI₂, hr₂⟩ := id hst₂
    have V₃ := V₂.add heI₂ (Ne.symm hCI) (Ne.symm hDI) (Ne.symm hIL) fr0
    refine wpAny_bind ?_
    unfold letOwnedTupleGo
    refine wpAny_pure (wpAny_bind ?_)
    refine cv_store (s := { s₁ with heap := h₂, toks := tk₂, drawn := dr }) V₃ rfl hkind (hxn C) fun h₃ V₄ => ?_
    have back : ∀ {h' : Heap}, h'.get? s₁.heap.objs.size = some oI₂ → h'.IsStrIter s₁.heap.objs.size T x t (i + 1) := fun e => ⟨oI₂, e, hr₂⟩
    refine wpAny_bind (wpAny_tests_one (wpAny_mono (hb i kc u ys nw [(s₁.heap.objs.size, oI₂)] C D h₃ _ dr mC E' hkc hJ' hk' V₄ (fun q hq p hp => by rw [List.mem_singleton.mp hq]; exact hoff p hp)) (fun ok s₄ h₄ => ?_) fun _ _ e => e))
    cases ok with
    | true =>
      refine wpAny_bind (wpAny_bind (wpAny_mono h₄ (fun y s₅ h₅ => ?_) fun _ _ e => e))
      obtain ⟨nw', h', tk'', dr', mC', rfl, V₅, hk₅, ho₅, hJ₅⟩ := h₅
      refine wpAny_bind (cv_append (s := { s₁ with heap := h', toks := tk'', drawn := dr' }) V₅ (by have := hlen _ _ _ hJ'; rw [sizeLine_eq]; omega) fun h'' V₆ => wpAny_pure (wpAny_pure ⟨rfl, ys ++ [y], nw', h'', tk'', dr', mC', oI₂, rfl, V₆, back (V₆.N _ (.head _)).1, hk₅, fun p hp => ho₅ _ (.head _) p hp, hJ₅⟩))
    | false =>
      obtain ⟨nw', h', tk'', dr', mC', rfl, V₅, hk₅, ho₅, hJ₅⟩ := h₄
      exact wpAny_pure ⟨rfl, ys, nw', h', tk'', dr', mC', oI₂, rfl, V₅, back (V₅.N _ (.head _)).1, hk₅, fun p hp => ho₅ _ (.head _) p hp, hJ₅⟩
  case sp =>
    rintro _ E' ⟨ys, nw, h, tk', dr, mC, oI, rfl, V', hit, hk', hoff, hJ'⟩
    refine W.done _ _ _ hit fun h₂ tk₂ hk₂ => ⟨rfl, ?_⟩
    have V₂ := (V'.sub (news' := nw) fun p hp => .tail _ hp).but (fun b o hb e => hk₂ b o (by simpa using hb) e) hCI hDI hIL fr0 hoff
    exact ⟨ys, nw, h₂, tk₂, dr, mC, rfl, rfl, V₂, hk', hJ'⟩
end
noncomputable def OPS : List Str := [Str.ofString "f", Str.ofString "g", Str.ofString "a", Str.ofString "leaf0", Str.ofString "leaf1", Str.ofString "leaf2", Str.ofString "leaf3", Str.ofString "leaf4"]
noncomputable def okSign (k : Nat) : Bool := !(Txt.isspace ⟨#[k]⟩) && (Builtin.Str.occurrences (Str.ofString "()[]{},:") ⟨#[k]⟩ 0 (Str.ofString "()[]{},:").length 1).isEmpty
theorem ops_ok : (OPS.all fun x => x.cps.toList.all okSign) = true := by decide +kernel
theorem ops_ne : (OPS.all fun x => x != Str.ofString "") = true := by decide +kernel
theorem ops_len : (OPS.all fun x => decide (x.cps.size ≤ 10)) = true := by decide +kernel
theorem ops_sign {x : Str} (hx : x ∈ OPS) {i k : Nat} (h : x.cps[i]? = some k) : Txt.isspace ⟨#[k]⟩ = false ∧ (!(Builtin.Str.occurrences (Str.ofString "()[]{},:") ⟨#[k]⟩ 0 (Str.ofString "()[]{},:").length 1).isEmpty) = false := by
  have h1 := List.all_eq_true.mp ops_ok x hx
  have h2 := List.all_eq_true.mp h1 k (Array.mem_toList_iff.mpr (Array.mem_of_getElem? h))
  simp only [okSign, Bool.and_eq_true, Bool.not_eq_true'] at h2
  exact ⟨h2.1, by rw [h2.2]; rfl⟩

end
theorem ln_HE_36 : True := by
  k_with "eval ListComp Name cons" => (((k_here; (with_reducible show wpAny _ _ (eval (PySem.Expr.ListComp _ [⟨PySem.Expr.Name _ _, _, [_], 0⟩] _ _) _) _ _ _); (with_reducible rename Fr _ _ _ _ => F9q9); k_dflt (refine' compK_str F9q9 ?hhq9 ?hclq9 ?hceq9 ?hkiq9 ?hnaq9 ?hsq9 ?haq9 ?_; (case hhq9 => exact rfl); (case hclq9 => exact rfl); (case hkiq9 => exact rfl); (case hceq9 => decide); (case hnaq9 => decide); (case hsq9 => (intro _; with_unfolding_all rfl)); (case haq9 => (intro _; rfl))))) <;> walk_at "hide9a")
  exact True.intro
section
set_option maxHeartbeats 4000000
open PyProof.Rows.LCg
section
variable {prog : Program} {w : World} {A : Around} {E : Value → Shared → Prop} {s : Shared}
theorem str_item0 {value slice : PySem.Expr} {x : Str} {t u : Tok} {c : Nat} {Q : Value → Shared → Prop} (hc : x.cps[0]? = some c) (h : Q (.str ⟨#[c]⟩ s.toks) { s with toks := s.toks + 1 })
    (hs : subscripted slice false (.str x t) (.int 0 u) = operate [.str x t, .int 0 u] (getItem (.str x t) (.int 0 u))) : wpAny (model prog w) A (subscriptTail value slice (.str x t) (.int 0 u)) Q E s := by
  have hlt : 0 < x.length := by
    have := (Array.getElem?_eq_some_iff.mp hc).1
    exact this
  exact tail_any (typeIs_str s x t) PySem.F.slot_str_getitem.lookup (PySem.P.getItem_str (by decide) (by simp [seqIndex?, hlt, hc]) h) hs
end
theorem ops_first : (OPS.all fun x => match x.cps[0]? with | some c => !((⟨#[c]⟩ : Str) == Str.ofString "?") | none => false) = true := by decide +kernel
theorem ops_head {x : Str} (hx : x ∈ OPS) : ∃ c, x.cps[0]? = some c ∧ ((⟨#[c]⟩ : Str) == Str.ofString "?") = false := by
  have h := List.all_eq_true.mp ops_first x hx
  cases q : x.cps[0]? with
  | none => simp [q] at h
  | some c => exact ⟨c, rfl, by simpa [q] using h⟩

end
theorem ln_HE_37 : True := by
  k_with "subscriptTail Name Constant str int" => (k_here; (with_reducible show wpAny _ _ (subscriptTail _ (PySem.Expr.Constant (Const.int 0) _ _) (Value.str _ _) (Value.int _ _)) _ _ _); k_dflt (refine' str_item0 ?cq9 ?_ ?sq9; (case cq9 => assumption); (case sq9 => with_unfolding_all rfl)))
  exact True.intro
section
set_option maxHeartbeats 4000000
open PyProof.Rows.LCg
theorem isop_spec (w : World) (news : Led) (x : Str) (t : Tok) (hx : x ∈ OPS) : Fn w 67 20 [.str x t] news (fun news' r => news' = news ∧ r = .bool true) := by
  have hne : (x != Str.ofString "") = true := List.all_eq_true.mp ops_ne x hx
  have hsz : x.cps.size ≤ 10 := of_decide_eq_true (List.all_eq_true.mp ops_len x hx)
  (w_top off; unfold Fn; intro loose mean mg mb dp un gd cn cs a9 ccd cl outer A₀ base h₀ L m s Q E B F X N T hk hdp hun hret; (have kf : KF (rgTop.heap_1 w.params) PySem.Challenge.rw_rg0118_01 := (by k_fill; trivial)); clear kf; refine wpAny_call ?_; k_dflt ktr_enter)
  ((try k_fold); k_steps)
  rename_i g1 L1 h1 FG1 F1 N1 B1 X1 T1 _ _
  refine ⟨x, _, news, news, fun j ys nw => nw = news ∧ ys = [], rfl, F1, N1, fun _ h => h, by omega, ⟨rfl, rfl⟩, (by rintro j ys nw ⟨_, rfl⟩; exact Nat.zero_le _), ?zt, ?ze⟩
  case zt =>
    rintro i k u ys nw zl C D h tk dr mC E' hk ⟨rfl, rfl⟩ hsub V off
    obtain ⟨q1, q2⟩ := ops_sign hx hk
    obtain ⟨oC, hn4, N4⟩ := V.led
    have F4 := V.F
    ((try k_fold); k_steps)
    exact ⟨nw, _, _, _, _, rfl, V, fun _ h => h, off, rfl, rfl⟩
  case ze =>
    rintro Dc ys nw hc tkc drc Fc Nc offc ltc hsub ⟨rfl, rfl⟩
    ((try k_fold); k_steps)
    exact hret _ nw _ _ _ (by assumption) (News_sub (by assumption) (by (k_extra "sub9"))) ⟨rfl, rfl⟩

end
theorem ln_HE_38 : True := by
  k_with "call ref" => (k_here; (with_reducible show wpAny _ _ (call (Value.ref 67) [_]) _ _ _); k_dflt (refine' Fn.useK ?kCq9 ?kBq9 ?kFq9 ?kXq9 ?kNq9 ?kTq9 ?kkq9 ?kdq9 ?kuq9 ?_; (case kBq9 => k_asm); (case kFq9 => k_asm); (case kXq9 => k_asm); (case kNq9 => k_asm); (case kTq9 => k_asm); (case kkq9 => first | exact rfl | assumption); (case kCq9 => exact (isop_spec _ _ _ _ (by assumption))); (case kdq9 => ktr_room); (case kuq9 => ktr_units)); (intro KQ9q9 hKQ9q9 _ _ _ _ _ _ _ P9q9); (obtain ⟨e1q9, e2q9⟩ := P9q9); (replace e1q9 := Eq.symm e1q9); (subst e1q9); (try subst e2q9); (refine hKQ9q9 _ _ _ _ ?_); (clear hKQ9q9 KQ9q9); (try dsimp only))
  exact True.intro
section
set_option maxHeartbeats 4000000
open PyProof.Rows.LCg
theorem require_spec (w : World) (news : Led) (v : Value) (x : Str) (t : Tok) (hx : x ∈ OPS) : Fn w 117 24 [v, .str x t] news (fun news' r => news' = news ∧ r = .none) := by
  obtain ⟨c, hc, hq⟩ := ops_head hx
  (w_top off; unfold Fn; intro loose mean mg mb dp un gd cn cs a9 ccd cl outer A₀ base h₀ L m s Q E B F X N T hk hdp hun hret; (have kf : KF (rgTop.heap_1 w.params) PySem.Challenge.rw_rg0118_01 := (by k_fill; trivial)); clear kf; refine wpAny_call ?_; k_dflt ktr_enter)
  ((try k_fold); k_steps)
  exact hret _ _ _ _ _ (by assumption) (by assumption) ⟨rfl, rfl⟩

end

section
set_option maxHeartbeats 4000000
theorem int_of {a b : Int} {t : Tok} (h : a = b) : Value.int a t = Value.int b t := by rw [h]
theorem Idx.snoc {as : List Value} {n : Nat} (h : Idx as n) (t : Tok) : Idx (as ++ [.int (as.length : Int) t]) (n + 1) := by
  obtain ⟨h1, h2⟩ := h
  refine ⟨by simp [h1], fun i v hv => ?_⟩
  rw [List.getElem?_append] at hv
  split at hv
  · exact h2 i v hv
  · have hi := (List.getElem?_eq_some_iff.mp hv).1
    simp at hi
    have : i = as.length := by omega
    subst this
    simp at hv
    exact ⟨t, hv.symm⟩
theorem make_spec {w : World} {rest : Led} {U Ud ab lt mg : Nat} {tU : Nat → Tok} {nU k k2 n : Nat} {as ls : List Value} (hU : (U, W.instObj 292 Ud) ∈ rest) (hUd : (Ud, unionsD w tU ab lt mg nU) ∈ rest) (hI : Idx as n) (hl : ls.length = n) (hn : n ≤ 30) (h1 : @Ne Nat ab lt) (h2 : ∀ p ∈ rest, p.1 ≠ ab) (h3 : ∀ p ∈ rest, p.1 ≠ lt) :
    Fn w 235 6 [.ref U] ((ab, W.listOf as.toArray k) :: (lt, W.listOf ls.toArray k2) :: rest) (fun news' r => Ex5 fun (as' : List Value) (ls' : List Value) (k' : Nat) (k2' : Nat) (t : Tok) => And4 (news' = (ab, W.listOf as'.toArray k') :: (lt, W.listOf ls'.toArray k2') :: rest) (r = .int (n : Int) t) (Idx as' (n + 1)) (ls'.length = n + 1)) := by
  have hal := hI.1
  (w_top off; unfold Fn; intro loose mean mg mb dp un gd cn cs a9 ccd cl outer A₀ base h₀ L m s Q E B F X N T hk hdp hun hret; (have kf : KF (rgTop.heap_1 w.params) PySem.Challenge.rw_rg0118_01 := (by k_fill; trivial)); clear kf; refine wpAny_call ?_; k_dflt ktr_enter)
  ((try k_fold); k_steps)
  refine hret _ ((ab, W.listOf (as ++ [_]).toArray _) :: (lt, W.listOf (ls ++ [_]).toArray _) :: rest) _ _ _ (by assumption) (News_sub (by assumption) (by (k_extra "sub9"))) ⟨as ++ [_], ls ++ [_], _, _, _, rfl, int_of (by simp [hal]), hI.snoc _, by simp [hl]⟩

end

section
set_option maxHeartbeats 4000000
structure BankOk (w : World) (rest : Led) (nv : List Value) (no : Obj) (wv dv : List Value) (ns : List Nd) : Prop where
  nodes : Paired (fun v n => ∃ ad, v = .ref ad ∧ NdAt rest ad n) nv ns
  nums : NumDict w no rest ns
  wl : wv.length = ns.length
  wts : ∀ v ∈ wv, ∃ (i : Int) (t : Tok), v = .int i t
  dl : dv.length = ns.length
  dps : ∀ v ∈ dv, ∃ (i : Int) (t : Tok), v = .int i t
  nd : ns.Nodup
section
variable {prog : Program} {w : World} {A : Around} {E : Value → Shared → Prop} {s : Shared} {h₀ : Heap} {L : Addr} {l : Led}
theorem tup_same {a : Addr} {vs : List Value} {Q : Value → Shared → Prop} (N : News h₀ L s.heap l) (ha : (a, tupO vs) ∈ l) (h : Q (.ref a) s) : wpAny (model prog w) A (call (.type "tuple") [.ref a]) Q E s :=
  call_tuple_tup (items := vs.toArray) ⟨_, (N _ ha).1, rfl, 0, rfl⟩ h
end

end
theorem ln_HG_39 : True := by
  k_with "call type:tuple" => (k_here; (with_reducible show wpAny _ _ (call (Value.type _) [Value.ref _]) _ _ _); k_dflt (refine' tup_same ?Nq9 ?aq9 ?_; (case Nq9 => k_asm); (case aq9 => k_mem)))
  k_with "binaryOp Add ref ref" => (((k_here; k_dflt (refine' add_cons ?Fq9 ?Nq9 ?bq9 ?ltq9 ?zq9 ?_; (case Fq9 => k_asm); (case Nq9 => k_asm); (case bq9 => k_mem); (case ltq9 => assumption); (case zq9 => first | assumption | omega)); intro _ _ _ _ l1q9; (try k_lt l1q9))) <;> walk_at "hide9a")
  k_with "compareOp In ref ref" => (k_here; k_dflt (refine' num_in' ?Nq9 ?dq9 ?Dq9 ?Sq9 ?aq9 ?kq9 ?loq9 ?uq9 ?_; (case Nq9 => k_asm); (case dq9 => k_mem); (case Dq9 => assumption); (case Sq9 => (k_extra "sub9")); (case aq9 => k_mem); (case kq9 => assumption); (case loq9 => assumption); (case uq9 => ktr_units)); intro _)
  k_with "subscriptTail Attribute Name Name ref ref" => (k_here; (with_reducible show wpAny _ _ (subscriptTail _ _ (Value.ref _) (Value.ref _)) _ _ _); k_dflt (refine' num_item' ?Nq9 ?dq9 ?Dq9 ?Sq9 ?aq9 ?kq9 ?nq9 ?iq9 ?uq9 ?_ ?sq9; (case Nq9 => k_asm); (case dq9 => k_mem); (case Dq9 => assumption); (case Sq9 => (k_extra "sub9")); (case aq9 => k_mem); (case kq9 => assumption); (case nq9 => assumption); (case iq9 => assumption); (case uq9 => ktr_units); (case sq9 => with_unfolding_all rfl)); intro _ _)
  exact True.intro
section
set_option maxHeartbeats 4000000
theorem take_found {w : World} {rest : Led} {B Bd nl nd wl dl kt : Nat} {tB : Nat → Tok} {nB nk wk dk : Nat} {nv wv dv kvs : List Value} {no : Obj} {ns : List Nd} {x : Str} {t : Tok} {ks : List Nat} (hB : (B, W.instObj 186 Bd) ∈ rest) (hBd : (Bd, bankD w tB nl nd wl dl nB) ∈ rest) (hkt : (kt, tupO kvs) ∈ rest) (hks : NatsAre kvs ks)
    (K : BankOk w rest nv no wv dv ns) (hlo : (nd == sysModules) = false) (hlk : kvs.length ≤ 2) {i : Nat} (hi : ns[i]? = some (x, ks)) :
    Fn w 110 40 [.ref B, .str x t, .ref kt] ((nl, W.listOf nv.toArray nk) :: (nd, no) :: (wl, W.listOf wv.toArray wk) :: (dl, W.listOf dv.toArray dk) :: rest) (fun news' r => news' = ((nl, W.listOf nv.toArray nk) :: (nd, no) :: (wl, W.listOf wv.toArray wk) :: (dl, W.listOf dv.toArray dk) :: rest) ∧ ∃ t', r = .int (i : Int) t') := by
  have hnums := K.nums
  have hndp := K.nd
  have hmem : decide ((x, ks) ∈ ns) = true := decide_eq_true (List.mem_of_getElem? hi)
  have hkl : kvs.length ≤ 1000 := by omega
  (w_top off; unfold Fn; intro loose mean mg mb dp un gd cn cs a9 ccd cl outer A₀ base h₀ L m s Q E B F X N T hk hdp hun hret; (have kf : KF (rgTop.heap_1 w.params) PySem.Challenge.rw_rg0118_01 := (by k_fill; trivial)); clear kf; refine wpAny_call ?_; k_dflt (refine' code_defC ?k1 ?k2 ?k3 ?k4 ?k5 ?kA ?kF ?kK ?k6 ?k7 ?k8 ?k9 ?kB ?kD ?_ ?c2 ?c3 ?c4; (case kA => exact rfl); (case kF => exact rfl); (case kK => assumption); (case k1 => k_asm); (case k2 => k_asm); (case k3 => k_asm); (case k4 => k_asm); (case k5 => k_asm); (case k6 => k_is); (case k7 => k_is); (case k8 => ktr_room); (case k9 => exact BindsTo.of_eq rfl); (case kB => exact rfl); (case kD => decide +kernel); (case c2 => exact rfl); (case c3 => exact rfl); (case c4 => exact rfl); k_whole; intro g' L' h' tk' cells' FG' F' N' Y' B' X' T' l1; (have l1b := tbn_up (ltN (Nat.lt_succ_self L')) (allLt_of l1)); (try simp only [AllLt, and_true] at l1b); (try k_lt l1); k_cells Y'; (try simp only [List.cons_append, List.nil_append] at N'); (try dsimp only); (try k_fold)))
  ((try k_fold); k_steps)
  exact hret _ _ _ _ _ (by assumption) (News_sub (by assumption) (by (k_extra "sub9"))) ⟨rfl, _, rfl⟩
section
variable {prog : Program} {w : World} {A : Around} {E : Value → Shared → Prop} {s : Shared} {h₀ : Heap} {L : Addr} {m : Str → Option Value} {l : Led} {env : Env}
theorem tup_turn {R : Result → Shared → Prop} {x : Str} {px : Pos} {body : List Stmt} {I t : Addr} {i : Nat} {oI : Obj} {vs : List Value} {v : Value} {g : Obj → Led}
    (hh : A.handled = none) (F : Fr h₀ L s.heap m) (N : News h₀ L s.heap l) (U : UpdF I oI l g) (hI : TIt oI t i) (ht : (t, tupO vs) ∈ l) (hne : t ≠ I) (hx : vs[i]? = some v)
    (h : ∀ h' tk oI', Fr h₀ L h' m → News h₀ L h' (g oI') → TIt oI' t (i + 1) →
      wpAny (model prog w) A (storeName env x v) (fun _ s₂ => wpAny (model prog w) A (execs body env) (fun f s₃ => match f with
            | .next | .cont => codeAny (model prog w) A (.forLoop (.Name x px) (.ref I) body [] env) R s₃
            | .brk => R (.ok .next) s₃
            | .ret v => R (.ok (.ret v)) s₃) (notedBy (model prog w) A env fun e s' => R (.error e) s') s₂) (notedBy (model prog w) A env fun e s' => R (.error e) s') { s with heap := h', toks := tk }) :
    codeAny (model prog w) A (.forLoop (.Name x px) (.ref I) body [] env) R s := by
  have hi := N _ (UpdF_old U)
  have W := Walks.tuple (prog := prog) (w := w) hh I t hne vs.toArray
  refine for_step (W.item i s _ _ (by have := (List.getElem?_eq_some_iff.mp hx).1; simpa using this) ⟨⟨oI, hi.1, hI.cls, hI.data⟩, ⟨_, (N _ ht).1, rfl, 0, rfl⟩⟩ fun v' h' tk hP hst hk => ?_)
  have hv : v' = v := by
    have : vs[i]? = some v' := by simpa using hP
    rw [hx] at this; exact (Option.some.inj this).symm
  subst hv
  obtain ⟨oI', ho, hc, hd⟩ := hst.1
  dsimp only
  unfold letOwnedTupleGo
  refine wpAny_pure ?_
  exact wpAny_assign_Name (h h' tk oI' (PyProof.Rows.LCg.fr_but F (fun b o hb e => hk b o hb e) (Ne.symm hi.2.1) hi.2.2) (News_upd N U (fun b ob hb q => hk b ob (by simpa using hb) q) ho) ⟨hc, hd⟩)
theorem tup_stop {R : Result → Shared → Prop} {x : Str} {px : Pos} {body : List Stmt} {I t : Addr} {i : Nat} {oI : Obj} {vs : List Value} {r : Led}
    (hh : A.handled = none) (F : Fr h₀ L s.heap m) (N : News h₀ L s.heap l) (hIm : (I, oI) ∈ l) (hI : TIt oI t i) (ht : (t, tupO vs) ∈ l) (hne : t ≠ I) (hx : i = vs.length) (sub : ∀ p ∈ r, p ∈ l) (off : ∀ p ∈ r, p.1 ≠ I)
    (h : ∀ h' tk, Fr h₀ L h' m → News h₀ L h' r → R (.ok .next) { s with heap := h', toks := tk }) :
    codeAny (model prog w) A (.forLoop (.Name x px) (.ref I) body [] env) R s := by
  have hi := N _ hIm
  have W := Walks.tuple (prog := prog) (w := w) hh I t hne vs.toArray
  refine for_step (W.done s _ _ ⟨⟨oI, hi.1, hI.cls, by rw [hI.data, hx]; simp⟩, ⟨_, (N _ ht).1, rfl, 0, rfl⟩⟩ fun h' tk hk => wpAny_execs_nil ?_)
  exact h h' tk (PyProof.Rows.LCg.fr_but F (fun b o hb e => hk b o hb e) (Ne.symm hi.2.1) hi.2.2) (fun p hp => ⟨hk _ _ (by simpa using off p hp) (N p (sub p hp)).1, (N p (sub p hp)).2⟩)
theorem tup_iter {t : Addr} {vs : List Value} {Q : Value → Shared → Prop} (F : Fr h₀ L s.heap m) (N : News h₀ L s.heap l) (ht : (t, tupO vs) ∈ l)
    (h : ∀ I h' oI, Fr h₀ L h' m → News h₀ L h' ((I, oI) :: l) → TIt oI t 0 → (∀ p ∈ l, p.1 < I) → Q (.ref I) { s with heap := h' }) : wpAny (model prog w) A (pyIter (.ref t)) Q E s :=
  wpAny_pyIter_tuple ⟨_, (N _ ht).1, rfl, 0, rfl⟩ (h _ _ _ (F.push _) (News.push F N _) ⟨rfl, rfl⟩ fun p hp => Heap.lt_size (N p hp).1)
end

end
theorem ln_HG_40 : True := by
  k_with "exec For Name Subscript cons nil" => (k_here; refine wpAny_For ?_ (by intro _; with_unfolding_all rfl))
  k_with "pyIter ref" => (((k_here; k_dflt (refine' tup_iter ?Fq9 ?Nq9 ?lq9 ?_; (case Fq9 => k_asm); (case Nq9 => k_asm); (case lq9 => k_mem)); (intro _ _ _ _ _ _ l1q9); (try k_lt l1q9))) <;> walk_at "hide9a")
  k_with "setItem" => (((k_here; (with_reducible show wpAny _ _ (setItem (Value.ref _) (Value.ref _) _) _ _ _); k_dflt (refine' num_set' ?Fq9 ?Nq9 ?Uq9 ?Dq9 ?Sq9 ?aq9 ?kq9 ?nq9 ?lq9 ?uq9 ?jq9 ?_; (case Fq9 => k_asm); (case Nq9 => k_asm); (case Uq9 => k_updF); (case Dq9 => assumption); (case Sq9 => (k_extra "sub9")); (case aq9 => k_mem); (case kq9 => assumption); (case nq9 => assumption); (case lq9 => omega); (case uq9 => ktr_units); (case jq9 => first | assumption | omega)); (intro _ _ _ _ N'q9 _); (try dsimp only at N'q9))) <;> walk_at "hide9a")
  k_with "eval ListComp Subscript cons" => (((k_here; (with_reducible show wpAny _ _ (eval (PySem.Expr.ListComp _ [⟨_, _, [], 0⟩] _ _) _) _ _ _); (with_reducible rename Fr _ _ _ _ => F9q9); k_dflt (refine' comp_plainT F9q9 ?hhq9 ?hclq9 ?hceq9 ?hkiq9 ?hnaq9 ?hsq9 ?_; (case hhq9 => exact rfl); (case hclq9 => exact rfl); (case hkiq9 => exact rfl); (case hceq9 => decide); (case hnaq9 => decide); (case hsq9 => (intro _; with_unfolding_all rfl))))) <;> walk_at "hide9a")
  k_with "call ref" => (k_here; (with_reducible show wpAny _ _ (call (Value.ref 117) [_, _]) _ _ _); k_dflt (refine' Fn.useK ?kCq9 ?kBq9 ?kFq9 ?kXq9 ?kNq9 ?kTq9 ?kkq9 ?kdq9 ?kuq9 ?_; (case kBq9 => k_asm); (case kFq9 => k_asm); (case kXq9 => k_asm); (case kNq9 => k_asm); (case kTq9 => k_asm); (case kkq9 => first | exact rfl | assumption); (case kCq9 => exact (require_spec _ _ _ _ _ (by assumption))); (case kdq9 => ktr_room); (case kuq9 => ktr_units)); (intro KQ9q9 hKQ9q9 _ _ _ _ _ _ _ P9q9); (obtain ⟨e1q9, e2q9⟩ := P9q9); (replace e1q9 := Eq.symm e1q9); (subst e1q9); (try subst e2q9); (refine hKQ9q9 _ _ _ _ ?_); (clear hKQ9q9 KQ9q9); (try dsimp only))
  exact True.intro
section
set_option maxHeartbeats 4000000
theorem intsAre_of : ∀ {vs : List Value}, (∀ v ∈ vs, ∃ (i : Int) (t : Tok), v = .int i t) → ∃ zs, IntsAre vs zs
  | [], _ => ⟨[], .nil⟩
  | v :: r, h => by
    obtain ⟨i, t, rfl⟩ := h v (.head _)
    obtain ⟨zs, hz⟩ := intsAre_of fun v hv => h v (.tail _ hv)
    exact ⟨i :: zs, .cons i t hz⟩
theorem intsAre_snoc {vs : List Value} {zs : List Int} (h : IntsAre vs zs) (i : Int) (t : Tok) : IntsAre (vs ++ [.int i t]) (zs ++ [i]) := by
  induction h with
  | nil => exact .cons i t .nil
  | cons j u h ih => exact .cons j u ih
theorem NumDict.monoT {w : World} {o : Obj} {news news' : Led} {ns : List Nd} (h : NumDict w o news ns) (k : ∀ a vs, (a, tupO vs) ∈ news → (a, tupO vs) ∈ news') : NumDict w o news' ns :=
  let ⟨xs, h1, h2, h3, h4⟩ := h; ⟨xs, h1, h2, fun x hx => let ⟨t, vs, q1, q2⟩ := h3 x hx; ⟨t, vs, k _ _ q1, q2⟩, h4⟩
theorem NumDict.cls {w : World} {o : Obj} {news : Led} {ns : List Nd} (h : NumDict w o news ns) : o.cls = .type "dict" := by
  obtain ⟨xs, ⟨es, ep, h1, _⟩, _⟩ := h; exact h1.1

end
theorem ln_HG_41 : True := by
  k_with "binaryOp Add ref ref" => (((k_here; k_dflt (refine' add_listsL ?Fq9 ?Nq9 ?tq9 ?bq9 ?zq9 ?z2q9 ?_; (case Nq9 => with_reducible assumption); (case tq9 => k_mem); (case bq9 => k_mem); (case Fq9 => k_asm); (case zq9 => first | assumption | exact Nat.le_of_ble_eq_true rfl); (case z2q9 => first | assumption | exact Nat.le_of_ble_eq_true rfl); (intro _ _ _ _ l1q9); (try k_lt l1q9)))) <;> walk_at "hide9a")
  k_with "call builtin:sum" => (k_here; (with_reducible show wpAny _ _ (call (Value.builtin "sum") [Value.ref _]) _ _ _); k_dflt (refine' sumK ?hq9 ?Fq9 ?Nq9 ?lq9 ?iq9 ?_; (case hq9 => exact rfl); (case Fq9 => k_asm); (case Nq9 => k_asm); (case iq9 => assumption); (case lq9 => exact News.isList (by k_asm) (by k_mem))); (intro _ _ _ _ _))
  k_with "call builtin:max" => (k_here; (with_reducible show wpAny _ _ (call (Value.builtin _) [Value.ref _]) _ _ _); k_dflt (refine' max_list_N (vs := _ ++ [_]) ?hq9 ?Fq9 ?Nq9 ?lq9 (intsAre_snoc ?iq9 _ _) ?neq9 ?_; (case hq9 => exact rfl); (case Fq9 => k_asm); (case Nq9 => k_asm); (case iq9 => assumption); (case lq9 => exact News.isList (by k_asm) (by k_mem)); (case neq9 => (simp))); (intro _ _ _ _ _ _ _ _))
  exact True.intro
section
set_option maxHeartbeats 4000000
theorem take_new {w : World} {rest : Led} {B Bd nl nd wl dl kt : Nat} {tB : Nat → Tok} {nB nk wk dk : Nat} {nv wv dv kvs : List Value} {no : Obj} {ns : List Nd} {x : Str} {t : Tok} {ks : List Nat} (hB : (B, W.instObj 186 Bd) ∈ rest) (hBd : (Bd, bankD w tB nl nd wl dl nB) ∈ rest) (hkt : (kt, tupO kvs) ∈ rest) (hks : NatsAre kvs ks)
    (K : BankOk w rest nv no wv dv ns) (hlo : (nd == sysModules) = false) (hlk : kvs.length ≤ 2) (hx : x ∈ OPS) (hlow : ∀ k ∈ ks, k < ns.length) (hns : ns.length ≤ 20) (hnew : (x, ks) ∉ ns)
    (o1 : ∀ p ∈ rest, p.1 ≠ nl) (o2 : ∀ p ∈ rest, p.1 ≠ nd) (o3 : ∀ p ∈ rest, p.1 ≠ wl) (o4 : ∀ p ∈ rest, p.1 ≠ dl) (n1 : @Ne Nat nl nd) (n2 : @Ne Nat nl wl) (n3 : @Ne Nat nl dl) (n4 : @Ne Nat nd wl) (n5 : @Ne Nat nd dl) (n6 : @Ne Nat wl dl) :
    Fn w 110 60 [.ref B, .str x t, .ref kt] ((nl, W.listOf nv.toArray nk) :: (nd, no) :: (wl, W.listOf wv.toArray wk) :: (dl, W.listOf dv.toArray dk) :: rest)
    (fun news' r => Ex9 fun (nv' : List Value) (wv' : List Value) (dv' : List Value) (no' : Obj) (nk' : Nat) (wk' : Nat) (dk' : Nat) (D : Nat) (t' : Tok) => And8 (news' = (nl, W.listOf nv'.toArray nk') :: (nd, no') :: (wl, W.listOf wv'.toArray wk') :: (dl, W.listOf dv'.toArray dk') :: (D, tupO (.str x t :: kvs)) :: rest) (r = .int (ns.length : Int) t') (BankOk w ((D, tupO (.str x t :: kvs)) :: rest) nv' no' wv' dv' (ns ++ [(x, ks)])) (∀ p ∈ rest, @LT.lt Nat _ p.1 D) (nl < D) (nd < D) (wl < D) (dl < D)) := by
  have hnums := K.nums
  have hndp := K.nd
  have hmem : decide ((x, ks) ∈ ns) = false := decide_eq_false hnew
  have hkl : kvs.length ≤ 1000 := by omega
  have hkl2 : kvs.length < 1000 := by omega
  have hnl : nv.length = ns.length := Paired.length K.nodes
  have hwl := K.wl
  have hdl := K.dl
  have hop := hx
  (w_top off; unfold Fn; intro loose mean mg mb dp un gd cn cs a9 ccd cl outer A₀ base h₀ L m s Q E B F X N T hk hdp hun hret; (have kf : KF (rgTop.heap_1 w.params) PySem.Challenge.rw_rg0118_01 := (by k_fill; trivial)); clear kf; refine wpAny_call ?_; k_dflt (refine' code_defC ?k1 ?k2 ?k3 ?k4 ?k5 ?kA ?kF ?kK ?k6 ?k7 ?k8 ?k9 ?kB ?kD ?_ ?c2 ?c3 ?c4; (case kA => exact rfl); (case kF => exact rfl); (case kK => assumption); (case k1 => k_asm); (case k2 => k_asm); (case k3 => k_asm); (case k4 => k_asm); (case k5 => k_asm); (case k6 => k_is); (case k7 => k_is); (case k8 => ktr_room); (case k9 => exact BindsTo.of_eq rfl); (case kB => exact rfl); (case kD => decide +kernel); (case c2 => exact rfl); (case c3 => exact rfl); (case c4 => exact rfl); k_whole; intro g' L' h' tk' cells' FG' F' N' Y' B' X' T' l1; (have l1b := tbn_up (ltN (Nat.lt_succ_self L')) (allLt_of l1)); (try simp only [AllLt, and_true] at l1b); (try k_lt l1); k_cells Y'; (try simp only [List.cons_append, List.nil_append] at N'); (try dsimp only); (try k_fold)))
  ((try k_fold); k_steps)
  rename_i okc dkc _ _ D1 z1 lD1 _ _ aN z2 laN z3 _ _ z4 _ _ _ _ z5 z6 z7 D3 z8 zF zN lD3 I1 z9 oI1 F1 N1 hI1 lI1
  clear zF zN
  obtain ⟨m1, F1, e1⟩ : ∃ m1, Fr _ _ z9 m1 ∧ m1 (Str.ofString "node") = some (.ref aN) := ⟨_, F1, rfl⟩
  have offI : ∀ p ∈ (D3, tupO kvs) :: (aN, tupO (.str x t :: kvs)) :: (L' + 1, okc) :: (nl, W.listOf nv.toArray nk) :: (nd, no) :: (wl, W.listOf wv.toArray wk) :: (dl, W.listOf dv.toArray dk) :: rest, p.1 ≠ I1 := by
    obtain ⟨q1, q2, q3, q4, q5, q6, q7, q8, q9⟩ := lI1
    exact fcons (Nat.ne_of_lt q1) (fcons (Nat.ne_of_lt q2) (fcons (Nat.ne_of_lt q4) (fcons (Nat.ne_of_lt q5) (fcons (Nat.ne_of_lt q6) (fcons (Nat.ne_of_lt q7) (fcons (Nat.ne_of_lt q8) (fun p hp => Nat.ne_of_lt (q9.mem p hp))))))))
  refine loop_ind (fun κ s' => Ex6 fun (i : Nat) (m' : Str → Option Value) (oI : Obj) (hh : Heap) (tk : Nat) (dr : Drawn) => And7 (κ = kvs.length - i) (i ≤ kvs.length) (s' = { s with heap := hh, toks := tk, drawn := dr }) (Fr _ _ hh m') (m' (Str.ofString "node") = some (.ref aN)) (News _ _ hh ((I1, oI) :: (D3, tupO kvs) :: (aN, tupO (.str x t :: kvs)) :: (L' + 1, okc) :: (nl, W.listOf nv.toArray nk) :: (nd, no) :: (wl, W.listOf wv.toArray wk) :: (dl, W.listOf dv.toArray dk) :: rest)) (TIt oI D3 i)) ?_ kvs.length _ ⟨0, m1, oI1, z9, _, _, by omega, by omega, rfl, F1, e1, News_sub N1 (by (k_extra "sub9")), hI1⟩
  clear F1 e1 N1 hI1
  rintro κ s' ⟨i, m', oI, hh, tkL, dr, rfl, hi, rfl, F, e1, N, hI⟩ ih
  cases hv : kvs[i]? with
  | some v =>
    obtain ⟨c, hc, tc, rfl⟩ := Paired.get hks hv
    have hcl : c < ns.length := hlow c (List.mem_of_getElem? hc)
    (k_dflt (refine' tup_turn (g := fun o => (I1, o) :: (D3, tupO kvs) :: (aN, tupO (.str x t :: kvs)) :: (L' + 1, okc) :: (nl, W.listOf nv.toArray nk) :: (nd, no) :: (wl, W.listOf wv.toArray wk) :: (dl, W.listOf dv.toArray dk) :: rest) ?hh ?F ?N ?U ?hI ?ht ?ne ?hx ?_))
    case hh => exact rfl
    case F => assumption
    case N => assumption
    case U => exact UpdF.head offI
    case hI => assumption
    case ht => k_mem
    case ne => exact offI _ (.head _)
    case hx => assumption
    intro h' tk' oI' F' N' hI'
    clear N F hI
    (try dsimp only at N')
    ((try k_fold); k_steps)
    have hil := (List.getElem?_eq_some_iff.mp hv).1
    rename_i hX FX NX tkX _ _
    exact ih (kvs.length - (i + 1)) _ (by omega) ⟨i + 1, _, oI', hX, _, _, rfl, hil, rfl, FX, e1, NX, hI'⟩
  | none =>
    have hil : i = kvs.length := Nat.le_antisymm hi (List.getElem?_eq_none_iff.mp hv)
    (k_dflt (refine' tup_stop (r := (aN, tupO (.str x t :: kvs)) :: (L' + 1, okc) :: (nl, W.listOf nv.toArray nk) :: (nd, no) :: (wl, W.listOf wv.toArray wk) :: (dl, W.listOf dv.toArray dk) :: rest) ?hh ?F ?N ?hm ?hI ?ht ?ne ?hx ?hs ?ho ?_))
    case hh => exact rfl
    case F => assumption
    case N => assumption
    case hm => exact .head _
    case hI => assumption
    case ht => k_mem
    case ne => exact offI _ (.head _)
    case hx => assumption
    case hs => exact fun p hp => .tail _ (.tail _ hp)
    case ho => exact fun p hp => offI p (.tail _ hp)
    intro h' tk' F' N'
    clear N F hI ih offI lI1 lD3
    have hjj : (nv.length : Int) = (ns.length : Int) := by rw [hnl]
    ((try k_fold); k_steps)
    rename_i q1 o2 q2 hd2 _ _ _ _ q3 _ _ _ _ D4 q5 F4 N4 lD4
    simp only [List.push_toArray] at N4
    generalize hBS : (D4, tupO kvs) :: (aN, tupO (.str x t :: kvs)) :: (L' + 1, okc) :: (nl, W.listOf (nv ++ [Value.ref aN]).toArray (nk + 1)) :: (nd, o2) :: (wl, W.listOf wv.toArray wk) :: (dl, W.listOf dv.toArray dk) :: rest = BASE at N4
    have hBr : ∀ p ∈ rest, p ∈ BASE := by rw [← hBS]; (k_extra "sub9")
    have hwlB : (wl, W.listOf wv.toArray wk) ∈ BASE := by rw [← hBS]; k_mem
    have hcellB : (L' + 1, okc) ∈ BASE := by rw [← hBS]; k_mem
    have hBB := hBr _ hB
    have hBdB := hBr _ hBd
    refine ⟨D4, kvs, BASE, fun j ys nw => nw = BASE ∧ ys.length ≤ j ∧ (∀ v ∈ ys, ∃ (i : Int) (t : Tok), v = .int i t), rfl, F4, N4, by rw [← hBS]; k_mem, Nat.le_of_lt hkl2, ⟨rfl, Nat.zero_le _, fun _ h => nomatch h⟩, (fun j ys nw h => h.2.1), ?zt, ?ze⟩
    case zt =>
      rintro j v1 ys nw oI2 I2 C D' hh' tk' dr' mC E' hj ⟨rfl, hyl, hys⟩ hsub V off hit
      obtain ⟨c, hc, t1, rfl⟩ := Paired.get hks hj
      have hcl : c < ns.length := hlow c (List.mem_of_getElem? hc)
      obtain ⟨vw, hvw⟩ : ∃ vw, wv[c]? = some vw := ⟨wv[c], by simp [hwl, hcl]⟩
      obtain ⟨iw, tw, rfl⟩ := K.wts vw (List.mem_of_getElem? hvw)
      refine cv_one V rfl rfl rfl fun h4 tk4 V4 => ?_
      obtain ⟨oC, hn4, N4⟩ := V4.led
      have F4 := V4.F
      ((try k_fold); k_steps)
      refine ⟨nw, _, _, _, _, rfl, V4, fun _ h => h, off, rfl, by rw [List.length_append]; exact Nat.succ_le_succ hyl, fun v hv => ?_⟩
      rcases List.mem_append.mp hv with hv | hv
      · exact hys v hv
      · exact ⟨_, _, List.mem_singleton.mp hv⟩
    case ze =>
      rintro Dc ys nw hc tkc drc Fc Nc offc ltc hsub ⟨rfl, hyl, hys⟩
      obtain ⟨zs, hz⟩ := intsAre_of hys
      rw [← hBS] at Nc ltc
      k_lt ltc
      clear hsub offc hwlB hcellB hBB hBdB hBr hBS
      ((try k_fold); k_steps)
      rename_i r1 r2 r3 r4 _ _ _ _ D5 r5 F5 N5 lD5
      simp only [List.push_toArray] at N5
      generalize hBS : (D5, tupO kvs) :: (Dc, LCg.lst ys) :: (D4, tupO kvs) :: (aN, tupO (.str x t :: kvs)) :: (L' + 1, okc) :: (nl, W.listOf (nv ++ [Value.ref aN]).toArray (nk + 1)) :: (nd, o2) :: (wl, W.listOf (wv ++ [_]).toArray (wk + 1)) :: (dl, W.listOf dv.toArray dk) :: rest = BASE at N5
      have hBr : ∀ p ∈ rest, p ∈ BASE := by rw [← hBS]; (k_extra "sub9")
      have hwlB : (dl, W.listOf dv.toArray dk) ∈ BASE := by rw [← hBS]; k_mem
      have hcellB : (L' + 1, okc) ∈ BASE := by rw [← hBS]; k_mem
      have hBB := hBr _ hB
      have hBdB := hBr _ hBd
      refine ⟨D5, kvs, BASE, fun j ys nw => nw = BASE ∧ ys.length ≤ j ∧ (∀ v ∈ ys, ∃ (i : Int) (t : Tok), v = .int i t), rfl, F5, N5, by rw [← hBS]; k_mem, Nat.le_of_lt hkl2, ⟨rfl, Nat.zero_le _, fun _ h => nomatch h⟩, (fun j ys nw h => h.2.1), ?zt, ?ze⟩
      case zt =>
        rintro j v1 ys nw oI2 I2 C D' hh' tk' dr' mC E' hj ⟨rfl, hyl, hys⟩ hsub V off hit
        obtain ⟨c, hc, t1, rfl⟩ := Paired.get hks hj
        have hcl : c < ns.length := hlow c (List.mem_of_getElem? hc)
        obtain ⟨vw, hvw⟩ : ∃ vw, dv[c]? = some vw := ⟨dv[c], by simp [hdl, hcl]⟩
        obtain ⟨iw, tw, rfl⟩ := K.dps vw (List.mem_of_getElem? hvw)
        refine cv_one V rfl rfl rfl fun h4 tk4 V4 => ?_
        obtain ⟨oC, hn4, N4⟩ := V4.led
        have F4 := V4.F
        ((try k_fold); k_steps)
        refine ⟨nw, _, _, _, _, rfl, V4, fun _ h => h, off, rfl, by rw [List.length_append]; exact Nat.succ_le_succ hyl, fun v hv => ?_⟩
        rcases List.mem_append.mp hv with hv | hv
        · exact hys v hv
        · exact ⟨_, _, List.mem_singleton.mp hv⟩
      case ze =>
        rintro De zs nw hc tkc drc Fc Nc offc lte hsub ⟨rfl, hyl, hzs⟩
        obtain ⟨zz, hz2⟩ := intsAre_of hzs
        rw [← hBS] at Nc lte
        k_lt lte
        have hzl : zs.length ≤ 1000 := by omega
        clear hsub offc hwlB hcellB hBB hBdB hBr hBS
        ((try k_fold); k_steps)
        refine hret _ ((nl, W.listOf (nv ++ [Value.ref aN]).toArray (nk + 1)) :: (nd, o2) :: (wl, W.listOf (wv ++ [_]).toArray (wk + 1)) :: (dl, W.listOf (dv ++ [_]).toArray (dk + 1)) :: (aN, tupO (.str x t :: kvs)) :: rest) _ _ _ (by assumption) (News_sub (by (try simp only [List.push_toArray] at *); assumption) (by (k_extra "sub9"))) ⟨nv ++ [.ref aN], wv ++ [_], dv ++ [_], o2, _, _, _, aN, _, rfl, int_of (by simp [hnl]), ?_, laN.2.2.2.2.2.mem, laN.2.1, laN.2.2.1, laN.2.2.2.1, laN.2.2.2.2.1⟩
        refine ⟨?_, ?_, by simp [hwl], ?_, by simp [hdl], ?_, ?_⟩
        · exact Paired.append (Paired.imp (fun _ _ ⟨ad, q1, q2⟩ => ⟨ad, q1, q2.mono fun p hp => .tail _ hp⟩) K.nodes) (.cons ⟨aN, rfl, t, kvs, .head _, hks⟩ .nil)
        · refine hd2.monoT fun a vs h => ?_
          have hno := hnums.cls
          simp only [List.mem_cons, Prod.mk.injEq] at h ⊢
          rcases h with h | ⟨_, h⟩ | ⟨_, h⟩ | ⟨_, h⟩ | ⟨_, h⟩ | ⟨_, h⟩ | h
          · exact .inl h
          · exact absurd (congrArg Obj.data h) (by rw [dkc]; simp)
          · exact absurd h (by simp [W.listOf])
          · exact absurd (congrArg Obj.cls h) (by rw [hno]; simp)
          · exact absurd h (by simp [W.listOf])
          · exact absurd h (by simp [W.listOf])
          · exact .inr h
        · intro v hv
          rcases List.mem_append.mp hv with hv | hv
          · exact K.wts v hv
          · exact ⟨_, _, List.mem_singleton.mp hv⟩
        · intro v hv
          rcases List.mem_append.mp hv with hv | hv
          · exact K.dps v hv
          · exact ⟨_, _, List.mem_singleton.mp hv⟩
        · rw [List.nodup_append]
          exact ⟨K.nd, by simp, fun a ha b hb e => hnew (by rw [← List.mem_singleton.mp hb, ← e]; exact ha)⟩

end

section
set_option maxHeartbeats 4000000
section
variable {prog : Program} {w : World} {A : Around} {E : Value → Shared → Prop} {s : Shared} {h₀ : Heap} {L d : Addr} {news rest : Led} {o : Obj} {ns : List Nd}
theorem num_method {name : Str} {id : String} {pl : Sem Bool} {Q : Value × List Value → Shared → Prop} (N : News h₀ L s.heap news) (hm : (d, o) ∈ news) (D : NumDict w o rest ns) (slot : PySem.Slot "dict" name id) (hty : typeOf (.builtin id) = pure (.type "method_descriptor"))
    (h : Q (.builtin id, [.ref d]) s) : wpAny (model prog w) A (getMethod (.ref d) name pl) Q E s := by
  obtain ⟨xs, ⟨es, ep, hex, _⟩, _⟩ := D
  exact getMethod_builtin ⟨_, (N _ hm).1, hex.1⟩ PySem.F.plainAttrs_dict slot hty (fun a e => by cases e; exact ⟨_, (N _ hm).1, hex.2.1⟩) h
end
theorem hnode' {w : World} {news : Led} {H Hd B U ed fo kn av wt : Nat} {tH : Nat → Tok} {t0 : Tok} {nH Ud ab lt mg : Nat} {tU : Nat → Tok} {nU k : Nat} {as : List Value} {n i : Nat} {t : Tok}
    {Bd nl nd wl dl : Nat} {tB : Nat → Tok} {nB k2 : Nat} {nv : List Value} {ad : Addr} {x : Str} {tx : Tok} {kvs : List Value} {ks : List Nat}
    (hH : (H, W.instObj 424 Hd) ∈ news) (hHd : (Hd, heapD w tH B U ed fo kn av wt t0 nH) ∈ news) (hU : (U, W.instObj 292 Ud) ∈ news) (hUd : (Ud, unionsD w tU ab lt mg nU) ∈ news) (hab : (ab, W.listOf as.toArray k) ∈ news) (hI : Idx as n) (hn : n ≤ 30)
    (hB : (B, W.instObj 186 Bd) ∈ news) (hBd : (Bd, bankD w tB nl nd wl dl nB) ∈ news) (hnl : (nl, W.listOf nv.toArray k2) ∈ news) (hb : i ≤ 1000) (hv : nv[i]? = some (.ref ad)) (hm : (ad, tupO (.str x tx :: kvs)) ∈ news) (hks : NatsAre kvs ks) (hlow : ∀ c ∈ ks, c < n) (hl : ks.length ≤ 2) :
    Fn w 322 12 [.ref H, .int (i : Int) t] news (fun news' r => Ex1 fun (D : Nat) => And3 (news' = (D, tupO (.str x tx :: kvs)) :: news) (r = .ref D) (∀ p ∈ news, @LT.lt Nat _ p.1 D)) :=
  hnode_spec w news H Hd B U ed fo kn av wt tH t0 nH Ud ab lt mg tU nU k as n i t Bd nl nd wl dl tB nB k2 nv ad x tx kvs ks hH hHd hU hUd hab hI hn hB hBd hnl hb hv hm hks hlow hl

end
theorem ln_HH_42 : True := by
  k_with "call ref" => ((((k_here; (with_reducible show wpAny _ _ (call (Value.ref 322) [_, _]) _ _ _); k_dflt (refine' Fn.useK ?kCq9 ?kBq9 ?kFq9 ?kXq9 ?kNq9 ?kTq9 ?kkq9 ?kdq9 ?kuq9 ?_; (case kBq9 => k_asm); (case kFq9 => k_asm); (case kXq9 => k_asm); (case kNq9 => k_asm); (case kTq9 => k_asm); (case kkq9 => first | exact rfl | assumption); (case kCq9 => exact (hnode' (by k_mem) (by k_mem) (by k_mem) (by k_mem) (by k_mem) (by assumption) (by omega) (by k_mem) (by k_mem) (by k_mem) (by omega) (by assumption) (by k_mem) (by assumption) (by assumption) (by assumption))); (case kdq9 => ktr_room); (case kuq9 => ktr_units)); (intro KQ9q9 hKQ9q9 _ _ _ _ _ _ _ P9q9); (obtain ⟨_, e1q9, e2q9, l1q9⟩ := P9q9); (replace e1q9 := Eq.symm e1q9); (subst e1q9); (try subst e2q9); (refine hKQ9q9 _ _ _ _ ?_); (clear hKQ9q9 KQ9q9); (try dsimp only)); (try k_lt l1q9))) <;> walk_at "hide9a")
  k_with "getMethod ref" => (((k_here; (with_reducible show wpAny _ _ (getMethod (Value.ref _) (Str.ofString "setdefault") _) _ _ _); (with_reducible rename NumDict _ _ _ _ => K9q9); k_dflt (refine' num_method ?Nq9 ?mq9 K9q9 PySem.F.slot_dict_setdefault PySem.F.type_dict_setdefault ?_; (case Nq9 => k_asm); (case mq9 => k_mem)))) <;> walk_at "hide9b")
  k_with "call builtin:dict.setdefault" => (((k_here; (with_reducible show wpAny _ _ (call (Value.builtin _) [Value.ref _, Value.ref _, Value.int _ _]) _ _ _); k_dflt (refine' num_setdef' ?Fq9 ?Nq9 ?Uq9 ?Dq9 ?Sq9 ?aq9 ?kq9 ?nq9 ?lq9 ?loq9 ?uq9 ?jq9 ?_; (case Fq9 => k_asm); (case Nq9 => k_asm); (case Uq9 => k_updF); (case Dq9 => assumption); (case Sq9 => (k_extra "sub9")); (case aq9 => k_mem); (case kq9 => assumption); (case nq9 => assumption); (case lq9 => omega); (case loq9 => assumption); (case uq9 => ktr_units); (case jq9 => first | assumption | omega)); (intro _ _ _ _ N'q9 _); (try dsimp only at N'q9))) <;> walk_at "hide9a")
  exact True.intro
section
set_option maxHeartbeats 4000000
theorem lookat_spec {w : World} {rest : Led} {H Hd B U ed fo kn av wt : Nat} {tH : Nat → Tok} {t0 : Tok} {nH : Nat} {Ud ab lt mg : Nat} {tU : Nat → Tok} {nU k : Nat} {as : List Value} {n : Nat} {t : Tok}
    {Bd nl nd wl dl : Nat} {tB : Nat → Tok} {nB k2 : Nat} {nv : List Value} {ad : Addr} {x : Str} {tx : Tok} {kvs : List Value} {ks : List Nat} {ko : Obj} {ns : List Nd}
    (hH : (H, W.instObj 424 Hd) ∈ rest) (hHd : (Hd, heapD w tH B U ed fo kn av wt t0 nH) ∈ rest) (hU : (U, W.instObj 292 Ud) ∈ rest) (hUd : (Ud, unionsD w tU ab lt mg nU) ∈ rest) (hab : (ab, W.listOf as.toArray k) ∈ rest) (hI : Idx as (n + 1)) (hn : n ≤ 28)
    (hB : (B, W.instObj 186 Bd) ∈ rest) (hBd : (Bd, bankD w tB nl nd wl dl nB) ∈ rest) (hnl : (nl, W.listOf nv.toArray k2) ∈ rest) (hv : nv[n]? = some (.ref ad)) (hm : (ad, tupO (.str x tx :: kvs)) ∈ rest) (hks : NatsAre kvs ks) (hlow : ∀ c ∈ ks, c < n) (hl : ks.length ≤ 2)
    (K : NumDict w ko rest ns) (hns : ns.length = n) (hnew : (x, ks) ∉ ns) (hlo : (kn == sysModules) = false) (off : ∀ p ∈ rest, p.1 ≠ kn) :
    Fn w 339 20 [.ref H, .int (n : Int) t] ((kn, ko) :: rest) (fun news' r => Ex2 fun (ko' : Obj) (D : Nat) => And5 (news' = (kn, ko') :: (D, tupO (.str x tx :: kvs)) :: rest) (r = .none) (NumDict w ko' ((D, tupO (.str x tx :: kvs)) :: rest) (ns ++ [(x, ks)])) (∀ p ∈ rest, @LT.lt Nat _ p.1 D) (kn < D)) := by
  have hkc := K.cls
  have hlow' : ∀ c ∈ ks, c < n + 1 := fun c hc => Nat.lt_succ_of_lt (hlow c hc)
  have hnn : n < n + 1 := Nat.lt_succ_self n
  have hnl2 : (n : Int) = (ns.length : Int) := by rw [hns]
  (w_top off; unfold Fn; intro loose mean mg mb dp un gd cn cs a9 ccd cl outer A₀ base h₀ L m s Q E B F X N T hk hdp hun hret; (have kf : KF (rgTop.heap_1 w.params) PySem.Challenge.rw_rg0118_01 := (by k_fill; trivial)); clear kf; refine wpAny_call ?_; k_dflt ktr_enter)
  ((try k_fold); k_steps)
  · exact absurd (rfl : (n : Int) = (n : Int)) (by assumption)
  · rename NumDict _ _ _ (_ ++ _) => hk2
    rename _ ∧ AllLt _ rest => hlD
    refine hret _ ((kn, _) :: (_, tupO (.str x tx :: kvs)) :: rest) _ _ _ (by assumption) (News_sub (by assumption) (by (k_extra "sub9"))) ⟨_, _, rfl, rfl, hk2.monoT fun a vs h => ?_, hlD.2.mem, hlD.1⟩
    simp only [List.mem_cons, Prod.mk.injEq] at h ⊢
    rcases h with h | ⟨_, h⟩ | h
    · exact .inl h
    · exact absurd (congrArg Obj.cls h) (by rw [hkc]; simp)
    · exact .inr h

end

section
set_option maxHeartbeats 4000000
set_option genInjectivity false in
set_option genSizeOf false in
structure HP where (H Hd B Bd U Ud nl nd wl dl ab lt mg ed fo kn av wt : Nat)
set_option genInjectivity false in
set_option genSizeOf false in
structure HT where (tH tB tU : Nat → Tok) (t0 : Tok) (nH nB nU : Nat)
structure HFix (w : World) (a : HP) (t : HT) (news : Led) : Prop where
  H : (a.H, W.instObj 424 a.Hd) ∈ news
  Hd : (a.Hd, heapD w t.tH a.B a.U a.ed a.fo a.kn a.av a.wt t.t0 t.nH) ∈ news
  B : (a.B, W.instObj 186 a.Bd) ∈ news
  Bd : (a.Bd, bankD w t.tB a.nl a.nd a.wl a.dl t.nB) ∈ news
  U : (a.U, W.instObj 292 a.Ud) ∈ news
  Ud : (a.Ud, unionsD w t.tU a.ab a.lt a.mg t.nU) ∈ news
  wt : (a.wt, W.listOf #[] 0) ∈ news
theorem HFix.mono {w : World} {a : HP} {t : HT} {n n' : Led} (h : HFix w a t n) (k : ∀ p ∈ n, p ∈ n') : HFix w a t n' :=
  ⟨k _ h.H, k _ h.Hd, k _ h.B, k _ h.Bd, k _ h.U, k _ h.Ud, k _ h.wt⟩
set_option genInjectivity false in
set_option genSizeOf false in
structure HV where (nv wv dv as ls : List Value) (no ko ao : Obj) (nk wk dk ak lk : Nat) (al : Led)
noncomputable def mutL (a : HP) (v : HV) : Led := (a.nl, W.listOf v.nv.toArray v.nk) :: (a.nd, v.no) :: (a.wl, W.listOf v.wv.toArray v.wk) :: (a.dl, W.listOf v.dv.toArray v.dk) :: (a.ab, W.listOf v.as.toArray v.ak) :: (a.lt, W.listOf v.ls.toArray v.lk) :: (a.kn, v.ko) :: (a.av, v.ao) :: v.al
noncomputable def AlOk (al : Led) (b : Nat) : Prop := ∀ p ∈ al, Ex2 fun (vs : List Value) (k : Nat) => And2 (p.2 = W.listOf vs.toArray k) (vs.length ≤ b)
noncomputable def AvOk (w : World) (o : Obj) (al : Led) (n : Nat) : Prop :=
  Ex1 fun kvs => And3 (o.IsDictOf (PySem.intKind PySem.Challenge.rw_rg0118_01.row.prog w) kvs) (kvs.length ≤ n) (∀ c : Nat, c < n → Ex2 fun p ob => And2 (valueAt kvs (c : Int) = some (Value.ref p)) ((p, ob) ∈ al))
structure HOk (w : World) (a : HP) (v : HV) (ns : List Nd) (rest : Led) : Prop where
  bank : BankOk w rest v.nv v.no v.wv v.dv ns
  idx : Idx v.as ns.length
  lts : v.ls.length = ns.length
  kn : NumDict w v.ko rest ns
  av : AvOk w v.ao v.al ns.length
  al : AlOk v.al (3 * ns.length)
  low : ∀ (i : Nat) n, ns[i]? = some n → (∀ k ∈ n.2, k < i) ∧ n.2.length ≤ 2
  apart : ((mutL a v).map (·.1)).Nodup
  off : ∀ p ∈ rest, ∀ q ∈ mutL a v, p.1 ≠ q.1
  lo1 : ((a.nd : Addr) == sysModules) = false
  lo2 : ((a.kn : Addr) == sysModules) = false
  lo3 : ((a.av : Addr) == sysModules) = false
theorem BankOk.mono {w : World} {r r' : Led} {nv wv dv : List Value} {no : Obj} {ns : List Nd} (h : BankOk w r nv no wv dv ns) (k : ∀ a vs, (a, tupO vs) ∈ r → (a, tupO vs) ∈ r') : BankOk w r' nv no wv dv ns :=
  ⟨Paired.imp (fun _ _ ⟨ad, q1, t, vs, q2, q3⟩ => ⟨ad, q1, t, vs, k _ _ q2, q3⟩) h.nodes, h.nums.monoT k, h.wl, h.wts, h.dl, h.dps, h.nd⟩
theorem ln_HI_43 : True := by
  k_with "call ref" => (k_here; (with_reducible show wpAny _ _ (call (Value.ref 110) [_, _, _]) _ _ _); k_dflt (refine' Fn.useK ?kCq9 ?kBq9 ?kFq9 ?kXq9 ?kNq9 ?kTq9 ?kkq9 ?kdq9 ?kuq9 ?_; (case kBq9 => k_asm); (case kFq9 => k_asm); (case kXq9 => k_asm); (case kNq9 => k_asm); (case kTq9 => k_asm); (case kkq9 => first | exact rfl | assumption); (case kCq9 => exact (take_found (by k_mem) (by k_mem) (by k_mem) (by assumption) (by assumption) (by assumption) (by assumption) (by assumption))); (case kdq9 => ktr_room); (case kuq9 => ktr_units)); (intro KQ9q9 hKQ9q9 _ _ _ _ _ _ _ P9q9); (obtain ⟨e1q9, _, e2q9⟩ := P9q9); (replace e1q9 := Eq.symm e1q9); (subst e1q9); (try subst e2q9); (refine hKQ9q9 _ _ _ _ ?_); (clear hKQ9q9 KQ9q9); (try dsimp only))
  exact True.intro
theorem add_found0 {w : World} {R : Led} {H Hd B Bd U Ud nl nd wl dl ab lt mg ed fo kn av wt : Nat} {tH tB tU : Nat → Tok} {t0 : Tok} {nH nB nU nk wk dk ak : Nat} {nv wv dv as : List Value} {no : Obj} {ns : List Nd} {kt : Nat} {kvs : List Value} {x : Str} {t : Tok} {ks : List Nat}
    (v1 : (H, W.instObj 424 Hd) ∈ R) (v2 : (Hd, heapD w tH B U ed fo kn av wt t0 nH) ∈ R) (v3 : (B, W.instObj 186 Bd) ∈ R) (v4 : (Bd, bankD w tB nl nd wl dl nB) ∈ R) (v5 : (U, W.instObj 292 Ud) ∈ R) (v6 : (Ud, unionsD w tU ab lt mg nU) ∈ R) (v8 : (ab, W.listOf as.toArray ak) ∈ R)
    (K : BankOk w R nv no wv dv ns) (hlo : (nd == sysModules) = false) (hI : Idx as ns.length) (hkt : (kt, tupO kvs) ∈ R) (hks : NatsAre kvs ks) (hlk : kvs.length ≤ 2) (hns : ns.length ≤ 20) {i : Nat} (hi : ns[i]? = some (x, ks)) :
    Fn w 327 60 [.ref H, .str x t, .ref kt] ((nl, W.listOf nv.toArray nk) :: (nd, no) :: (wl, W.listOf wv.toArray wk) :: (dl, W.listOf dv.toArray dk) :: R) (fun news' r => news' = ((nl, W.listOf nv.toArray nk) :: (nd, no) :: (wl, W.listOf wv.toArray wk) :: (dl, W.listOf dv.toArray dk) :: R) ∧ ∃ t', r = .int (i : Int) t') := by
  have hilt : i < ns.length := (List.getElem?_eq_some_iff.mp hi).1
  have hal := hI.1
  have hb : as.length ≤ 1000 := by rw [hal]; omega
  have hcmp : (i : Int) < (as.length : Int) := by rw [hal]; omega
  (w_top off; unfold Fn; intro loose mean mg mb dp un gd cn cs a9 ccd cl outer A₀ base h₀ L m s Q E B F X N T hk hdp hun hret; (have kf : KF (rgTop.heap_1 w.params) PySem.Challenge.rw_rg0118_01 := (by k_fill; trivial)); clear kf; refine wpAny_call ?_; k_dflt (refine' code_defC ?k1 ?k2 ?k3 ?k4 ?k5 ?kA ?kF ?kK ?k6 ?k7 ?k8 ?k9 ?kB ?kD ?_ ?c2 ?c3 ?c4; (case kA => exact rfl); (case kF => exact rfl); (case kK => assumption); (case k1 => k_asm); (case k2 => k_asm); (case k3 => k_asm); (case k4 => k_asm); (case k5 => k_asm); (case k6 => k_is); (case k7 => k_is); (case k8 => ktr_room); (case k9 => exact BindsTo.of_eq rfl); (case kB => exact rfl); (case kD => decide +kernel); (case c2 => exact rfl); (case c3 => exact rfl); (case c4 => exact rfl); k_whole; intro g' L' h' tk' cells' FG' F' N' Y' B' X' T' l1; (have l1b := tbn_up (ltN (Nat.lt_succ_self L')) (allLt_of l1)); (try simp only [AllLt, and_true] at l1b); (try k_lt l1); k_cells Y'; (try simp only [List.cons_append, List.nil_append] at N'); (try dsimp only); (try k_fold)))
  rename_i okc dkc
  have K2 := K.mono (r' := (L' + 1, okc) :: R) fun _ _ h => .tail _ h
  clear K
  replace N' := News_sub (news' := (nl, W.listOf nv.toArray nk) :: (nd, no) :: (wl, W.listOf wv.toArray wk) :: (dl, W.listOf dv.toArray dk) :: (L' + 1, okc) :: R) N' (by (k_extra "sub9"))
  ((try k_fold); k_steps)
  exact hret _ _ _ _ _ (by assumption) (News_sub (by assumption) (by (k_extra "sub9"))) ⟨rfl, _, rfl⟩

end

section
set_option maxHeartbeats 4000000
section
variable {prog : Program} {w : World} {A : Around} {E : Value → Shared → Prop} {s : Shared} {h₀ : Heap} {L : Addr} {m : Str → Option Value}
theorem AlOk.snoc {x1 x2 : Led} {p : Addr} {vs : List Value} {k k' b : Nat} {y : Value} (h : AlOk (x1 ++ (p, W.listOf vs.toArray k) :: x2) b) (hl : vs.length ≤ b) : AlOk (x1 ++ (p, W.listOf (vs ++ [y]).toArray k') :: x2) (b + 1) := by
  intro q hq
  rcases List.mem_append.mp hq with hq | hq
  · obtain ⟨vs', k'', e, hl'⟩ := h q (List.mem_append_left _ hq); exact ⟨vs', k'', e, Nat.le_succ_of_le hl'⟩
  · rcases List.mem_cons.mp hq with rfl | hq
    · exact ⟨_, _, rfl, by rw [List.length_append]; exact Nat.succ_le_succ hl⟩
    · obtain ⟨vs', k'', e, hl'⟩ := h q (List.mem_append_right _ ((.tail _ hq))); exact ⟨vs', k'', e, Nat.le_succ_of_le hl'⟩
theorem al_app {pre al R : Led} {p : Addr} {ob : Obj} {b : Nat} {y : Value} {Q : Value → Shared → Prop} (F : Fr h₀ L s.heap m) (N : News h₀ L s.heap (pre ++ (al ++ R))) (hp : (p, ob) ∈ al) (hA : AlOk al b) (hb : b ≤ 1000) (nda : (al.map (·.1)).Nodup)
    (oR : ∀ q ∈ R, ∀ r ∈ al, q.1 ≠ r.1) (oP : ∀ q ∈ pre, ∀ r ∈ al, q.1 ≠ r.1)
    (h : ∀ h' al', Fr h₀ L h' m → News h₀ L h' (pre ++ (al' ++ R)) → al'.map (·.1) = al.map (·.1) → AlOk al' (b + 1) → Q .none { s with heap := h' }) :
    wpAny (model prog w) A (call (.builtin "list.append") [.ref p, y]) Q E s := by
  obtain ⟨vs, k, rfl, hl⟩ : Ex2 fun (vs : List Value) (k : Nat) => And2 (ob = W.listOf vs.toArray k) (vs.length ≤ b) := hA _ hp
  obtain ⟨x1, x2, rfl⟩ := List.append_of_mem hp
  have hz := N (p, W.listOf vs.toArray k) (List.mem_append_right _ ((List.mem_append_left _ hp)))
  refine append_at (hsz := by rw [List.size_toArray]; exact k1000 (by omega)) hz.1 fun h' hs ho' => h h' (x1 ++ (p, W.listOf (vs ++ [y]).toArray (k + 1)) :: x2) (F.change hs hz.2.1 hz.2.2) ?_ (by simp) (hA.snoc hl)
  rw [List.map_append, List.map_cons, List.nodup_append] at nda
  have hn2 := nda.2.1
  rw [List.nodup_cons] at hn2
  intro q hq
  have keep : ∀ q ∈ pre ++ ((x1 ++ (p, W.listOf vs.toArray k) :: x2) ++ R), q.1 ≠ p → h'.get? q.1 = some q.2 ∧ q.1 ≠ L ∧ h₀.get? q.1 = none := fun q hq hne => ⟨hs.extBut _ _ hne (N q hq).1, (N q hq).2⟩
  rcases List.mem_append.mp hq with hq | hq
  · exact keep q (List.mem_append_left _ hq) (oP q hq _ hp)
  · rcases List.mem_append.mp hq with hq | hq
    · rcases List.mem_append.mp hq with hq | hq
      · exact keep q (List.mem_append_right _ ((List.mem_append_left _ ((List.mem_append_left _ hq))))) (nda.2.2 _ (List.mem_map.mpr ⟨q, hq, rfl⟩) _ (.head _))
      · rcases List.mem_cons.mp hq with rfl | hq
        · refine ⟨?_, hz.2⟩
          rw [ho']; congr 1; simp [W.listOf]
        · exact keep q (List.mem_append_right _ ((List.mem_append_left _ ((List.mem_append_right _ ((.tail _ hq))))))) (fun e => hn2.1 (e ▸ List.mem_map.mpr ⟨q, hq, rfl⟩))
    · exact keep q (List.mem_append_right _ ((List.mem_append_right _ hq))) (oR q hq _ hp)
theorem int_itemL {news : Led} {value slice : PySem.Expr} {d : Addr} {o : Obj} {kvs : List (Int × Value)} {c : Int} {t : Tok} {v : Value} {Q : Value → Shared → Prop} (N : News h₀ L s.heap news) (hd : (d, o) ∈ news) (hD : o.IsDictOf (PySem.intKind prog w) kvs) (hv : valueAt kvs c = some v) (h : Q v { s with toks := s.toks + 1 })
    (hs : subscripted slice false (.ref d) (.int c t) = operate [.ref d, .int c t] (getItem (.ref d) (.int c t))) : wpAny (model prog w) A (subscriptTail value slice (.ref d) (.int c t)) Q E s :=
  have hD' := kda_dict N hd hD
  tail_any hD'.typeIs slot_dict_getitem.lookup (wpAny_getItem_of (intKind_is _ _ _ _) hD'.mapOf hv h) hs
end
theorem valueAt_stored_ne {K : Type} [DecidableEq K] {kvs : List (K × Value)} {k c : K} {v : Value} (h : c ≠ k) : valueAt (stored kvs k v) c = valueAt kvs c := by
  have key : ∀ l : List (K × Value), ((l.map fun kv => if kv.1 = k then (kv.1, v) else kv).find? fun kv => decide (kv.1 = c)).map (·.2) = (l.find? fun kv => decide (kv.1 = c)).map (·.2) := by
    intro l
    induction l with
    | nil => rfl
    | cons p r ih =>
      rw [List.map_cons, List.find?_cons, List.find?_cons]
      by_cases hp : p.1 = k
      · have h1 : ¬ k = c := fun e => h e.symm
        simp only [hp, if_true, h1, decide_false]
        exact ih
      · simp only [hp, if_false]
        by_cases hc : p.1 = c
        · simp only [hc, decide_true]
        · simp only [hc, decide_false]
          exact ih
  unfold stored
  split
  · exact key kvs
  · unfold valueAt
    rw [List.find?_append]
    have : ([(k, v)].find? fun kv => decide (kv.1 = c)) = none := by simp [Ne.symm h]
    rw [this, Option.or_none]
theorem nats_ints : ∀ {vs : List Value} {ks : List Nat}, NatsAre vs ks → IntsAre vs (ks.map fun k : Nat => (k : Int))
  := by
  intro vs ks (h : Paired (fun v (k : Nat) => ∃ t, v = .int (k : Int) t) vs ks)
  induction h with
  | nil => exact .nil
  | cons h _ ih => obtain ⟨t, rfl⟩ := h; exact .cons _ t ih
theorem ddv_sub {K : Type} [DecidableEq K] (l : List (K × Value)) : (∀ z ∈ (ddv l).map (·.1), z ∈ l.map (·.1)) ∧ (ddv l).length ≤ l.length := by
  refine ⟨?_, ddv_length l⟩
  have : ∀ (l acc : List (K × Value)), ∀ z ∈ (l.foldl (fun acc p => if acc.any (fun q => decide (q.1 = p.1)) then acc else acc ++ [p]) acc).map (·.1), z ∈ acc.map (·.1) ∨ z ∈ l.map (·.1) := by
    intro l
    induction l with
    | nil => intro acc z hz; exact .inl hz
    | cons p l ih =>
      intro acc z hz
      rw [List.foldl_cons] at hz
      rcases ih _ z hz with h | h
      · split at h
        · exact .inl h
        · rw [List.map_append, List.mem_append] at h
          rcases h with h | h
          · exact .inl h
          · exact .inr (by rw [List.map_cons, List.mem_cons]; exact .inl (List.mem_singleton.mp h))
      · exact .inr (by rw [List.map_cons, List.mem_cons]; exact .inr h)
  intro z hz
  rcases this l [] z hz with h | h
  · simp at h
  · exact h
section
variable {prog : Program} {w : World} {A : Around} {E : Value → Shared → Prop} {s : Shared} {h₀ : Heap} {L : Addr} {l : Led}
theorem app_method {a : Addr} {vs : List Value} {k : Nat} {pl : Sem Bool} {Q : Value × List Value → Shared → Prop} (N : News h₀ L s.heap l) (hm : (a, W.listOf vs.toArray k) ∈ l)
    (h : Q (.builtin "list.append", [.ref a]) s) : wpAny (model prog w) A (getMethod (.ref a) (Str.ofString "append") pl) Q E s :=
  getMethod_builtin ⟨_, (N _ hm).1, rfl⟩ PySem.F.plainAttrs_list PySem.F.slot_list_append PySem.F.type_list_append (fun a e => by cases e; exact ⟨_, (N _ hm).1, rfl⟩) h
end
theorem intsAre_at : ∀ {vs : List Value} {zs : List Int} {i : Nat} {v : Value}, IntsAre vs zs → vs[i]? = some v → Ex2 fun z tz => And2 (v = .int z tz) (z ∈ zs)
  := by
  intro _ _ i _ h
  induction h generalizing i with
  | nil => intro h; exact nomatch h
  | cons z t r ih =>
    intro h
    cases i with
    | zero => exact ⟨z, t, (Option.some.inj h).symm, .head _⟩
    | succ i =>
      obtain ⟨z', t', e, hm⟩ := ih (i := i) h
      exact ⟨z', t', e, .tail _ hm⟩
theorem bank_last {w : World} {r : Led} {nv wv dv : List Value} {no : Obj} {ns : List Nd} {n : Nd} (h : BankOk w r nv no wv dv (ns ++ [n])) : ∃ ad, nv[ns.length]? = some (.ref ad) ∧ NdAt r ad n := by
  have hl := Paired.length h.nodes
  rw [List.length_append] at hl
  have hlt : ns.length < nv.length := by simp at hl; omega
  obtain ⟨m, hm, ad, e, hn⟩ := Paired.get h.nodes (i := ns.length) (a := nv[ns.length]) (by simp [hlt])
  have : m = n := by simpa using hm.symm
  subst this
  exact ⟨ad, by rw [List.getElem?_eq_getElem hlt, e], hn⟩
theorem valueAt_stored_self {K : Type} [DecidableEq K] {kvs : List (K × Value)} {k : K} {v : Value} : valueAt (stored kvs k v) k = some v := by
  have key : ∀ l : List (K × Value), (l.any fun kv => decide (kv.1 = k)) = true → ((l.map fun kv => if kv.1 = k then (kv.1, v) else kv).find? fun kv => decide (kv.1 = k)).map (·.2) = some v := by
    intro l
    induction l with
    | nil => intro h; simp at h
    | cons p r ih =>
      intro h
      rw [List.map_cons, List.find?_cons]
      by_cases hp : p.1 = k
      · simp [hp]
      · simp only [hp, if_false, decide_false]
        refine ih ?_
        rw [List.any_cons] at h
        simpa [hp] using h
  unfold stored
  split
  · rename_i h; exact key kvs h
  · rename_i h
    unfold valueAt
    rw [List.find?_append]
    have : (kvs.find? fun kv => decide (kv.1 = k)) = none := by
      rw [List.find?_eq_none]
      intro p hp e
      exact h (List.any_eq_true.mpr ⟨p, hp, e⟩)
    rw [this]; simp
theorem AlOk.mono {al : Led} {b b' : Nat} (h : AlOk al b) (hb : b ≤ b') : AlOk al b' := fun p hp => let ⟨vs, k, e, hl⟩ := h p hp; ⟨vs, k, e, Nat.le_trans hl hb⟩
theorem of_hold {p : Prop} (h : Hold p) : p := h
theorem ln_HJ_44 : True := by
  k_with "call ref" => ((with_reducible show wpAny _ _ (call (Value.ref 110) _) _ _ _); refine of_hold ?_)
  k_with "call ref" => ((with_reducible show wpAny _ _ (call (Value.ref 235) _) _ _ _); refine of_hold ?_)
  k_with "call ref" => ((with_reducible show wpAny _ _ (call (Value.ref 339) _) _ _ _); refine of_hold ?_)
  exact True.intro
local macro_rules | `(tactic| walk_at "setItem") => `(tactic| ((with_reducible show wpAny _ _ (setItem (Value.ref _) (Value.int _ _) _) _ _ _); refine of_hold ?_))
theorem ln_HJ_45 : True := by
  k_with "subscriptTail Attribute Name Name ref int" => (k_here; k_dflt (refine' int_itemL ?Nq9 ?dq9 ?Dq9 ?vq9 ?_ ?sq9; (case Nq9 => k_asm); (case dq9 => k_mem); (case Dq9 => assumption); (case vq9 => assumption); (case sq9 => with_unfolding_all rfl)))
  exact True.intro
local macro_rules | `(tactic| walk_at "call builtin:list.append") => `(tactic| (refine of_hold ?_))
theorem ln_HJ_46 : True := by
  k_with "getMethod ref" => (k_here; (with_reducible show wpAny _ _ (getMethod (Value.ref _) (Str.ofString "append") _) _ _ _); k_dflt (refine' app_method ?Nq9 ?mq9 ?_; (case Nq9 => k_asm); (case mq9 => k_mem)))
  exact True.intro
theorem add_new0 {w : World} {R al : Led} {H Hd B Bd U Ud nl nd wl dl ab lt mg ed fo kn av wt : Nat} {tH tB tU : Nat → Tok} {t0 : Tok} {nH nB nU nk wk dk ak lk : Nat} {nv wv dv as ls : List Value} {no ko ao : Obj} {ns : List Nd} {kt : Nat} {kvs : List Value} {x : Str} {t : Tok} {ks : List Nat}
    (v1 : (H, W.instObj 424 Hd) ∈ R) (v2 : (Hd, heapD w tH B U ed fo kn av wt t0 nH) ∈ R) (v3 : (B, W.instObj 186 Bd) ∈ R) (v4 : (Bd, bankD w tB nl nd wl dl nB) ∈ R) (v5 : (U, W.instObj 292 Ud) ∈ R) (v6 : (Ud, unionsD w tU ab lt mg nU) ∈ R)
    (K : BankOk w R nv no wv dv ns) (lo1 : (nd == sysModules) = false) (lo2 : (kn == sysModules) = false) (lo3 : (av == sysModules) = false) (hI : Idx as ns.length) (hL : ls.length = ns.length) (hKn : NumDict w ko R ns) (hA : AvOk w ao al ns.length) (hAl : AlOk al (3 * ns.length))
    (hkt : (kt, tupO kvs) ∈ R) (hks : NatsAre kvs ks) (hlk : kvs.length ≤ 2) (hns : ns.length ≤ 20) (hnew : (x, ks) ∉ ns) (hx : x ∈ OPS) (hlow : ∀ k ∈ ks, k < ns.length)
    (o1 : ∀ p ∈ (ab, W.listOf as.toArray ak) :: (lt, W.listOf ls.toArray lk) :: (kn, ko) :: (av, ao) :: (al ++ R), p.1 ≠ nl) (o2 : ∀ p ∈ (ab, W.listOf as.toArray ak) :: (lt, W.listOf ls.toArray lk) :: (kn, ko) :: (av, ao) :: (al ++ R), p.1 ≠ nd)
    (o3 : ∀ p ∈ (ab, W.listOf as.toArray ak) :: (lt, W.listOf ls.toArray lk) :: (kn, ko) :: (av, ao) :: (al ++ R), p.1 ≠ wl) (o4 : ∀ p ∈ (ab, W.listOf as.toArray ak) :: (lt, W.listOf ls.toArray lk) :: (kn, ko) :: (av, ao) :: (al ++ R), p.1 ≠ dl)
    (n1 : @Ne Nat nl nd) (n2 : @Ne Nat nl wl) (n3 : @Ne Nat nl dl) (n4 : @Ne Nat nd wl) (n5 : @Ne Nat nd dl) (n6 : @Ne Nat wl dl)
    (o5 : ∀ p ∈ (kn, ko) :: (av, ao) :: (al ++ R), p.1 ≠ ab) (o6 : ∀ p ∈ (kn, ko) :: (av, ao) :: (al ++ R), p.1 ≠ lt) (n7 : @Ne Nat ab lt) (o7 : ∀ p ∈ (av, ao) :: (al ++ R), p.1 ≠ kn) (o8 : ∀ p ∈ al ++ R, p.1 ≠ av) (nda : (al.map (·.1)).Nodup) (oal : ∀ p ∈ R, ∀ q ∈ al, p.1 ≠ q.1) :
    Fn w 327 90 [.ref H, .str x t, .ref kt] ((nl, W.listOf nv.toArray nk) :: (nd, no) :: (wl, W.listOf wv.toArray wk) :: (dl, W.listOf dv.toArray dk) :: (ab, W.listOf as.toArray ak) :: (lt, W.listOf ls.toArray lk) :: (kn, ko) :: (av, ao) :: (al ++ R))
    (fun news' r => Ex17 fun (nv' : List Value) (wv' : List Value) (dv' : List Value) (as' : List Value) (ls' : List Value) (no' : Obj) (ko' : Obj) (ao' : Obj) (nk' : Nat) (wk' : Nat) (dk' : Nat) (ak' : Nat) (lk' : Nat) (l0 : Nat) (al' : Led) (R' : Led) (t' : Tok) => And11 (news' = (nl, W.listOf nv'.toArray nk') :: (nd, no') :: (wl, W.listOf wv'.toArray wk') :: (dl, W.listOf dv'.toArray dk') :: (ab, W.listOf as'.toArray ak') :: (lt, W.listOf ls'.toArray lk') :: (kn, ko') :: (av, ao') :: (al' ++ (R' ++ R))) (r = .int (ns.length : Int) t') (BankOk w (R' ++ R) nv' no' wv' dv' (ns ++ [(x, ks)])) (Idx as' (ns.length + 1)) (ls'.length = ns.length + 1) (NumDict w ko' (R' ++ R) (ns ++ [(x, ks)])) (AvOk w ao' al' (ns.length + 1)) (AlOk al' (3 * (ns.length + 1))) (al'.map (·.1) = l0 :: al.map (·.1)) (∀ q ∈ (nl, W.listOf nv.toArray nk) :: (nd, no) :: (wl, W.listOf wv.toArray wk) :: (dl, W.listOf dv.toArray dk) :: (ab, W.listOf as.toArray ak) :: (lt, W.listOf ls.toArray lk) :: (kn, ko) :: (av, ao) :: (al ++ R), @LT.lt Nat _ q.1 l0 ∧ ∀ p ∈ R', @LT.lt Nat _ q.1 p.1) (∀ p ∈ R', @Ne Nat p.1 l0)) := by
  have hal := hI.1
  have inR : ∀ p ∈ R, p ∈ (ab, W.listOf as.toArray ak) :: (lt, W.listOf ls.toArray lk) :: (kn, ko) :: (av, ao) :: (al ++ R) := fun p hp => .tail _ (.tail _ (.tail _ (.tail _ (List.mem_append_right _ hp))))
  have w1 := inR _ v1
  have w2 := inR _ v2
  have w3 := inR _ v3
  have w4 := inR _ v4
  have w5 := inR _ v5
  have w6 := inR _ v6
  have wkt := inR _ hkt
  have wab : (ab, W.listOf as.toArray ak) ∈ (ab, W.listOf as.toArray ak) :: (lt, W.listOf ls.toArray lk) :: (kn, ko) :: (av, ao) :: (al ++ R) := .head _
  generalize hR1 : (ab, W.listOf as.toArray ak) :: (lt, W.listOf ls.toArray lk) :: (kn, ko) :: (av, ao) :: (al ++ R) = R1 at *
  (w_top off; unfold Fn; intro loose mean mg mb dp un gd cn cs a9 ccd cl outer A₀ base h₀ L m s Q E B F X N T hk hdp hun hret; (have kf : KF (rgTop.heap_1 w.params) PySem.Challenge.rw_rg0118_01 := (by k_fill; trivial)); clear kf; refine wpAny_call ?_; k_dflt (refine' code_defC ?k1 ?k2 ?k3 ?k4 ?k5 ?kA ?kF ?kK ?k6 ?k7 ?k8 ?k9 ?kB ?kD ?_ ?c2 ?c3 ?c4; (case kA => exact rfl); (case kF => exact rfl); (case kK => assumption); (case k1 => k_asm); (case k2 => k_asm); (case k3 => k_asm); (case k4 => k_asm); (case k5 => k_asm); (case k6 => k_is); (case k7 => k_is); (case k8 => ktr_room); (case k9 => exact BindsTo.of_eq rfl); (case kB => exact rfl); (case kD => decide +kernel); (case c2 => exact rfl); (case c3 => exact rfl); (case c4 => exact rfl); k_whole; intro g' L' h' tk' cells' FG' F' N' Y' B' X' T' l1; (have l1b := tbn_up (ltN (Nat.lt_succ_self L')) (allLt_of l1)); (try simp only [AllLt, and_true] at l1b); (try k_lt l1); k_cells Y'; (try simp only [List.cons_append, List.nil_append] at N'); (try dsimp only); (try k_fold)))
  rename_i okc dkc
  have hmax : ∀ p ∈ (nl, W.listOf nv.toArray nk) :: (nd, no) :: (wl, W.listOf wv.toArray wk) :: (dl, W.listOf dv.toArray dk) :: R1, @LT.lt Nat _ p.1 (L' + 1) := AllLt.mem l1b
  clear l1 l1b
  have K2 : BankOk w ((L' + 1, okc) :: R1) nv no wv dv ns := K.mono fun _ _ h => .tail _ (inR _ h)
  have p1 : ∀ p ∈ (L' + 1, okc) :: R1, p.1 ≠ nl := fcons (Nat.ne_of_gt (hmax _ (.head _))) o1
  have p2 : ∀ p ∈ (L' + 1, okc) :: R1, p.1 ≠ nd := fcons (Nat.ne_of_gt (hmax _ (.tail _ (.head _)))) o2
  have p3 : ∀ p ∈ (L' + 1, okc) :: R1, p.1 ≠ wl := fcons (Nat.ne_of_gt (hmax _ (.tail _ (.tail _ (.head _))))) o3
  have p4 : ∀ p ∈ (L' + 1, okc) :: R1, p.1 ≠ dl := fcons (Nat.ne_of_gt (hmax _ (.tail _ (.tail _ (.tail _ (.head _)))))) o4
  replace N' := News_sub (news' := (nl, W.listOf nv.toArray nk) :: (nd, no) :: (wl, W.listOf wv.toArray _) :: (dl, W.listOf dv.toArray dk) :: (L' + 1, okc) :: R1) N' (by (k_extra "sub9"))
  ((try k_fold); k_steps)
  show wpAny _ _ (call (Value.ref 110) _) _ _ _
  (k_here; (with_reducible show wpAny _ _ (call (Value.ref 110) _) _ _ _); k_dflt (refine' Fn.useK ?kC ?kB ?kF ?kX ?kN ?kT ?kk ?kd ?ku ?_; (case kB => k_asm); (case kF => k_asm); (case kX => k_asm); (case kN => k_asm); (case kT => k_asm); (case kk => first | exact rfl | assumption); (case kC => exact (take_new (by k_mem) (by k_mem) (by k_mem) hks K2 lo1 hlk hx hlow hns hnew p1 p2 p3 p4 n1 n2 n3 n4 n5 n6)); (case kd => ktr_room); (case ku => ktr_units)); (intro KQ9 hKQ9 r9 news9 h9 tk9 dr9 F9 N9 P9); (obtain ⟨nv', wv', dv', no', nk', wk', dk', D, t', e1, e2, K', lD, lD1, lD2, lD3, lD4⟩ := P9); (replace e1 := Eq.symm e1); (subst e1); (try subst e2); (refine hKQ9 _ _ _ _ ?_); (clear hKQ9 KQ9); (try dsimp only))
  clear p1 p2 p3 p4 K2
  have hb : as.length ≤ 1000 := by rw [hal]; omega
  have hcmp : ¬ ((ns.length : Int) < (as.length : Int)) := by rw [hal]; omega
  ((try k_fold); k_steps)
  show wpAny _ _ (call (Value.ref 235) [Value.ref U]) _ _ _
  have hN := ‹News g' L' _ ((nl, W.listOf nv'.toArray nk') :: _)›
  subst hR1
  replace hN := News_sub (news' := (ab, W.listOf as.toArray ak) :: (lt, W.listOf ls.toArray lk) :: (nl, W.listOf nv'.toArray nk') :: (nd, no') :: (wl, W.listOf wv'.toArray wk') :: (dl, W.listOf dv'.toArray dk') :: (D, tupO (.str x t :: kvs)) :: (L' + 1, okc) :: (kn, ko) :: (av, ao) :: (al ++ R)) hN (by (k_extra "sub9"))
  have q1 : ∀ p ∈ (nl, W.listOf nv'.toArray nk') :: (nd, no') :: (wl, W.listOf wv'.toArray wk') :: (dl, W.listOf dv'.toArray dk') :: (D, tupO (.str x t :: kvs)) :: (L' + 1, okc) :: (kn, ko) :: (av, ao) :: (al ++ R), p.1 ≠ ab :=
    fcons (Ne.symm (o1 _ (.head _))) (fcons (Ne.symm (o2 _ (.head _))) (fcons (Ne.symm (o3 _ (.head _))) (fcons (Ne.symm (o4 _ (.head _))) (fcons (Nat.ne_of_gt (lD _ (.tail _ (.head _)))) (fcons (Nat.ne_of_gt (hmax _ (.tail _ (.tail _ (.tail _ (.tail _ (.head _))))))) o5)))))
  have q2 : ∀ p ∈ (nl, W.listOf nv'.toArray nk') :: (nd, no') :: (wl, W.listOf wv'.toArray wk') :: (dl, W.listOf dv'.toArray dk') :: (D, tupO (.str x t :: kvs)) :: (L' + 1, okc) :: (kn, ko) :: (av, ao) :: (al ++ R), p.1 ≠ lt :=
    fcons (Ne.symm (o1 _ (.tail _ (.head _)))) (fcons (Ne.symm (o2 _ (.tail _ (.head _)))) (fcons (Ne.symm (o3 _ (.tail _ (.head _)))) (fcons (Ne.symm (o4 _ (.tail _ (.head _)))) (fcons (Nat.ne_of_gt (lD _ (.tail _ (.tail _ (.head _))))) (fcons (Nat.ne_of_gt (hmax _ (.tail _ (.tail _ (.tail _ (.tail _ (.tail _ (.head _)))))))) o6)))))
  have q3 : ∀ p ∈ (nl, W.listOf nv'.toArray nk') :: (nd, no') :: (wl, W.listOf wv'.toArray wk') :: (dl, W.listOf dv'.toArray dk') :: (D, tupO (.str x t :: kvs)) :: (L' + 1, okc) :: (kn, ko) :: (al ++ R), p.1 ≠ av :=
    fcons (Ne.symm (o1 _ (.tail _ (.tail _ (.tail _ (.head _)))))) (fcons (Ne.symm (o2 _ (.tail _ (.tail _ (.tail _ (.head _)))))) (fcons (Ne.symm (o3 _ (.tail _ (.tail _ (.tail _ (.head _)))))) (fcons (Ne.symm (o4 _ (.tail _ (.tail _ (.tail _ (.head _)))))) (fcons (Nat.ne_of_gt (lD _ (.tail _ (.tail _ (.tail _ (.tail _ (.head _))))))) (fcons (Nat.ne_of_gt (hmax _ (.tail _ (.tail _ (.tail _ (.tail _ (.tail _ (.tail _ (.tail _ (.head _)))))))))) (fcons (Ne.symm (o7 _ (.head _))) o8))))))
  have q4 : @Ne Nat ab av := Ne.symm (o5 _ (.tail _ (.head _)))
  have q5 : @Ne Nat lt av := Ne.symm (o6 _ (.tail _ (.head _)))
  generalize hR2 : (nl, W.listOf nv'.toArray nk') :: (nd, no') :: (wl, W.listOf wv'.toArray wk') :: (dl, W.listOf dv'.toArray dk') :: (D, tupO (.str x t :: kvs)) :: (L' + 1, okc) :: (kn, ko) :: (av, ao) :: (al ++ R) = R2 at hN q1 q2
  have inR2 : ∀ p ∈ R, p ∈ R2 := by rw [← hR2]; (k_extra "sub9")
  have x5 := inR2 _ v5
  have x6 := inR2 _ v6
  have hns30 : ns.length ≤ 30 := by first | exact le9 hns (by decide) | omega
  (k_here; (with_reducible show wpAny _ _ (call (Value.ref 235) _) _ _ _); k_dflt (refine' Fn.useK ?kC ?kB ?kF ?kX ?kN ?kT ?kk ?kd ?ku ?_; (case kB => k_asm); (case kF => k_asm); (case kX => k_asm); (case kN => k_asm); (case kT => k_asm); (case kk => first | exact rfl | assumption); (case kC => exact (make_spec x5 x6 hI hL hns30 n7 q1 q2)); (case kd => ktr_room); (case ku => ktr_units)); (intro KQ9 hKQ9 r9 news9 h9 tk9 dr9 F9 N9 P9); (obtain ⟨as', ls', ak', lk', tm, e1, e2, hI', hL'⟩ := P9); (replace e1 := Eq.symm e1); (subst e1); (try subst e2); (refine hKQ9 _ _ _ _ ?_); (clear hKQ9 KQ9); (try dsimp only))
  have x1 := inR2 _ v1
  have x2 := inR2 _ v2
  have xc : (L' + 1, okc) ∈ R2 := by rw [← hR2]; k_mem
  clear hN q1 q2
  ((try k_fold); k_steps)
  rename_i l0 z1 F2 N2 l1
  show wpAny _ _ (setItem (Value.ref av) (Value.int ((ns.length : Nat) : Int) _) (Value.ref l0)) _ _ _
  obtain ⟨kvsA, hAd, hAlen, hAv⟩ := hA
  have l1a := l1.2.2.mem
  rw [← hR2] at N2 l1a
  have q6 : ∀ p ∈ (l0, W.listOf #[] 0) :: (ab, W.listOf as'.toArray ak') :: (lt, W.listOf ls'.toArray lk') :: (nl, W.listOf nv'.toArray nk') :: (nd, no') :: (wl, W.listOf wv'.toArray wk') :: (dl, W.listOf dv'.toArray dk') :: (D, tupO (.str x t :: kvs)) :: (L' + 1, okc) :: (kn, ko) :: (al ++ R), p.1 ≠ av :=
    fcons (Nat.ne_of_gt (l1a (av, ao) (by k_mem))) (fcons q4 (fcons q5 q3))
  refine kda_set (knd := PySem.intKind _ _) F2 (News_sub (news' := (av, ao) :: (l0, W.listOf #[] 0) :: (ab, W.listOf as'.toArray ak') :: (lt, W.listOf ls'.toArray lk') :: (nl, W.listOf nv'.toArray nk') :: (nd, no') :: (wl, W.listOf wv'.toArray wk') :: (dl, W.listOf dv'.toArray dk') :: (D, tupO (.str x t :: kvs)) :: (L' + 1, okc) :: (kn, ko) :: (al ++ R)) N2 (by (k_extra "sub9"))) (UpdF.head q6) hAd (intKind_is _ _ _ _) (k1000 (by omega)) fun h' ao' F3 N3 hAd' => ?_
  try dsimp only at N3
  clear N2 q3 x1 x2 x5 x6 xc
  generalize hR3 : (nl, W.listOf nv'.toArray nk') :: (nd, no') :: (wl, W.listOf wv'.toArray wk') :: (dl, W.listOf dv'.toArray dk') :: (D, tupO (.str x t :: kvs)) :: (L' + 1, okc) :: (kn, ko) :: (al ++ R) = R3 at N3 q6
  have inR3 : ∀ p ∈ R, p ∈ R3 := by rw [← hR3]; (k_extra "sub9")
  have x1 := inR3 _ v1
  have x2 := inR3 _ v2
  have x5 := inR3 _ v5
  have x6 := inR3 _ v6
  have xk := inR3 _ hkt
  have xc : (L' + 1, okc) ∈ R3 := by rw [← hR3]; k_mem
  ((try k_fold); k_steps)
  have hns1 : ns.length + 1 ≤ 30 := by first | exact le9a hns (by decide) | omega
  refine ⟨kt, kvs, _, fun j ys nw => nw = (av, ao') :: (l0, W.listOf #[] 0) :: (ab, W.listOf as'.toArray ak') :: (lt, W.listOf ls'.toArray lk') :: R3 ∧ ys = kvs.take j, rfl, by assumption, N3, by k_mem, by omega, ⟨rfl, by simp⟩, ?zb, ?zt, ?ze⟩
  case zb => (rintro j ys nw ⟨_, rfl⟩; rw [List.length_take]; exact Nat.min_le_left _ _)
  case zt =>
    rintro j v1 ys nw oI I C D' hh' tk' dr' mC E' hj ⟨rfl, rfl⟩ hsub V off hit
    obtain ⟨c, hc, t1, rfl⟩ := Paired.get hks hj
    have hcn : c < ns.length + 1 := Nat.lt_succ_of_lt (hlow c (List.mem_of_getElem? hc))
    refine cv_one V rfl rfl rfl fun h4 tk4 V4 => ?_
    obtain ⟨oC, hn4, N4⟩ := V4.led
    have F4 := V4.F
    ((try k_fold); k_steps)
    rename_i hA tkA drA FA NA
    refine ⟨_, _, _, _, _, rfl, V4.back hn4 FA NA (by k_mem) (by k_mem) (by (k_extra "sub9")) V4.offC V4.offD, fun _ h => h, off, rfl, ?_⟩
    rw [List.take_add_one, hj]; rfl
  case ze =>
    rintro Dc ys nw hc tkc drc Fc Nc offc ltc hsub ⟨rfl, rfl⟩
    rw [List.take_of_length_le (Nat.le_refl _)] at Nc
    have hki := nats_ints hks
    have hkl2 : (ks.map fun k : Nat => (k : Int)).length ≤ 2 := by rw [List.length_map, ← Paired.length hks]; exact hlk
    clear hsub offc
    k_lt ltc
    ((try k_fold); k_steps)
    rename_i S4 oS4 zF0 zN0 G4 lS4 z7 z8 z9 D4 vs4 ss4 e4 zF zN IA4 P4 lD4 I4 z6 oI4 F4 N4 hI4 lI4
    clear zF zN
    have hI4m : ∀ p ∈ (D4, W.listOf vs4.toArray e4) :: (S4, oS4) :: (Dc, LCg.lst kvs) :: (av, ao') :: (l0, W.listOf #[] 0) :: (ab, W.listOf as'.toArray ak') :: (lt, W.listOf ls'.toArray lk') :: R3, @LT.lt Nat _ p.1 I4 := AllLt.mem lI4
    have hD4m : ∀ p ∈ (S4, oS4) :: (Dc, LCg.lst kvs) :: (av, ao') :: (l0, W.listOf #[] 0) :: (ab, W.listOf as'.toArray ak') :: (lt, W.listOf ls'.toArray lk') :: R3, @LT.lt Nat _ p.1 D4 := AllLt.mem lD4
    clear lI4 lD4
    rw [← hR3] at N4 hI4m hD4m
    have oDA : ∀ r ∈ al, @Ne Nat r.1 D4 := fun r hr => Nat.ne_of_lt (hD4m r (by k_mem))
    obtain ⟨PP, hPP⟩ : ∃ PP : Led, PP = [(av, ao'), (l0, W.listOf #[] 0), (ab, W.listOf as'.toArray ak'), (lt, W.listOf ls'.toArray lk'), (nl, W.listOf nv'.toArray nk'), (nd, no'), (wl, W.listOf wv'.toArray wk'), (dl, W.listOf dv'.toArray dk'), (D, tupO (.str x t :: kvs)), (L' + 1, okc), (kn, ko)] := ⟨_, rfl⟩
    replace N4 := News_sub (news' := ((I4, oI4) :: (D4, W.listOf vs4.toArray e4) :: PP) ++ (al ++ R)) N4 (by rw [hPP]; (k_extra "sub9"))
    have hIP0 : ∀ p ∈ (D4, W.listOf vs4.toArray e4) :: PP, p ∈ (D4, W.listOf vs4.toArray e4) :: (S4, oS4) :: (Dc, LCg.lst kvs) :: (av, ao') :: (l0, W.listOf #[] 0) :: (ab, W.listOf as'.toArray ak') :: (lt, W.listOf ls'.toArray lk') :: (nl, W.listOf nv'.toArray nk') :: (nd, no') :: (wl, W.listOf wv'.toArray wk') :: (dl, W.listOf dv'.toArray dk') :: (D, tupO (.str x t :: kvs)) :: (L' + 1, okc) :: (kn, ko) :: (al ++ R) := by rw [hPP]; (k_extra "sub9")
    have hIP : ∀ p ∈ (D4, W.listOf vs4.toArray e4) :: PP, @LT.lt Nat _ p.1 I4 := fun p hp => hI4m p (hIP0 p hp)
    have hIA : ∀ p ∈ al ++ R, @LT.lt Nat _ p.1 I4 := fun p hp => hI4m p (by k_mem)
    have inA : ∀ r ∈ al, r ∈ (ab, W.listOf as.toArray ak) :: (lt, W.listOf ls.toArray lk) :: (kn, ko) :: (av, ao) :: (al ++ R) := fun r hr => .tail _ (.tail _ (.tail _ (.tail _ (List.mem_append_left _ hr))))
    have oPP : ∀ q ∈ PP, ∀ r ∈ al, q.1 ≠ r.1 := by
      rw [hPP]
      exact fcons (fun r hr => Ne.symm (o8 r (List.mem_append_left _ hr))) (fcons (fun r hr => Nat.ne_of_gt (l1a r (by k_mem))) (fcons (fun r hr => Ne.symm (o5 r (.tail _ (.tail _ (List.mem_append_left _ hr))))) (fcons (fun r hr => Ne.symm (o6 r (.tail _ (.tail _ (List.mem_append_left _ hr))))) (fcons (fun r hr => Ne.symm (o1 r (inA r hr))) (fcons (fun r hr => Ne.symm (o2 r (inA r hr))) (fcons (fun r hr => Ne.symm (o3 r (inA r hr))) (fcons (fun r hr => Ne.symm (o4 r (inA r hr))) (fcons (fun r hr => Nat.ne_of_gt (lD r (.tail _ (inA r hr)))) (fcons (fun r hr => Nat.ne_of_gt (hmax r (.tail _ (.tail _ (.tail _ (.tail _ (inA r hr))))))) (fcons (fun r hr => Ne.symm (o7 r (.tail _ (List.mem_append_left _ hr)))) (List.forall_mem_nil _)))))))))))
    have hav : (av, ao') ∈ PP := by rw [hPP]; k_mem
    have hcl : (L' + 1, okc) ∈ PP := by rw [hPP]; k_mem
    have hsub4 : ∀ z ∈ ss4, ∃ c : Nat, z = (c : Int) ∧ c ∈ ks := by
      intro z hz
      have h1 := (ddv_sub _).1 z (P4.mem_iff.mp hz)
      obtain ⟨p, hp, rfl⟩ := List.mem_map.mp h1
      obtain ⟨c, hc, e⟩ := List.mem_map.mp (List.of_mem_zip (a := p.1) (b := p.2) hp).1
      exact ⟨c, e.symm, hc⟩
    have hlen4 : ss4.length ≤ 2 := by
      have h1 := P4.length_eq
      have h2 := (ddv_sub ((ks.map fun k : Nat => (k : Int)).zip kvs)).2
      rw [List.length_map] at h1
      rw [List.length_zip] at h2
      first
        | exact Nat.le_trans (Nat.le_of_eq h1) (Nat.le_trans h2 (Nat.le_trans (Nat.min_le_right _ _) hlk))
        | omega
    have hvl4 : vs4.length = ss4.length := IA4.length
    obtain ⟨m4, F4, em⟩ : ∃ m4, Fr _ _ z6 m4 ∧ m4 (Str.ofString "n") = some (.int ((ns.length : Nat) : Int) t') := ⟨_, F4, rfl⟩
    refine loop_ind (fun κ s' => Ex7 fun (i : Nat) (al' : Led) (m' : Str → Option Value) (oI : Obj) (hh : Heap) (tk : Nat) (dr : Drawn) => And9 (κ = vs4.length - i) (i ≤ vs4.length) (s' = { s with heap := hh, toks := tk, drawn := dr }) (Fr _ _ hh m') (m' (Str.ofString "n") = some (.int ((ns.length : Nat) : Int) t')) (News _ _ hh (((I4, oI) :: (D4, W.listOf vs4.toArray e4) :: PP) ++ (al' ++ R))) (LIt oI D4 i) (al'.map (·.1) = al.map (·.1)) (AlOk al' (3 * ns.length + i))) ?_ vs4.length _ ⟨0, al, m4, oI4, z6, _, _, by omega, by omega, rfl, F4, em, N4, hI4, rfl, hAl⟩
    clear F4 em N4 hI4
    rintro κ s' ⟨i, al', m', oI, hh, tkL, dr, rfl, hi, rfl, F, em, N, hI, hmap, hal'⟩ ih
    have mapoff : ∀ {q : Nat}, (∀ r ∈ al, @Ne Nat r.1 q) → ∀ r ∈ al', @Ne Nat r.1 q := by
      intro q hq r hr
      have : r.1 ∈ al.map (·.1) := by rw [← hmap]; exact List.mem_map.mpr ⟨r, hr, rfl⟩
      obtain ⟨r', hr', e⟩ := List.mem_map.mp this
      rw [← e]; exact hq r' hr'
    have offI : ∀ p ∈ ((D4, W.listOf vs4.toArray e4) :: PP) ++ (al' ++ R), p.1 ≠ I4 := fapp (fun p hp => Nat.ne_of_lt (hIP p hp)) (fapp (mapoff fun r hr => Nat.ne_of_lt (hIA r (List.mem_append_left _ hr))) (fun p hp => Nat.ne_of_lt (hIA p (List.mem_append_right _ hp))))
    cases hv : vs4[i]? with
    | some v =>
      obtain ⟨z, tz, rfl, hz⟩ : Ex2 fun z tz => And2 (v = .int z tz) (z ∈ ss4) := intsAre_at IA4 hv
      obtain ⟨c, rfl, hck⟩ := hsub4 z hz
      have hcn : c < ns.length := hlow c hck
      obtain ⟨pc, obc, hpv, hpm⟩ := hAv c hcn
      have hvc : valueAt (stored kvsA ((ns.length : Nat) : Int) (Value.ref l0)) (c : Int) = some (.ref pc) := by rw [valueAt_stored_ne (by omega)]; exact hpv
      obtain ⟨vsc, kc, hpl⟩ : ∃ (vsc : List Value) (kc : Nat), (pc, W.listOf vsc.toArray kc) ∈ al' := by
        have : pc ∈ al'.map (·.1) := by rw [hmap]; exact List.mem_map.mpr ⟨_, hpm, rfl⟩
        obtain ⟨⟨r1, r2⟩, hr, e⟩ := List.mem_map.mp this
        obtain ⟨vs, k, e2, _⟩ := hal' _ hr
        simp only at e e2
        subst e; subst e2
        exact ⟨vs, k, hr⟩
      (k_dflt (refine' list_turn (g := fun o => ((I4, o) :: (D4, W.listOf vs4.toArray e4) :: PP) ++ (al' ++ R)) ?F ?N ?U ?hI ?ht ?hx ?_))
      case F => assumption
      case N => assumption
      case U => exact UpdF.head offI
      case hI => assumption
      case ht => k_mem
      case hx => simpa using hv
      intro h' oI' F' N' hI'
      clear N F hI
      (try dsimp only at N')
      ((try k_fold); k_steps)
      show wpAny _ _ (call (Value.builtin "list.append") [Value.ref pc, Value.int ((ns.length : Nat) : Int) t']) _ _ _
      refine al_app (pre := (I4, oI') :: (D4, W.listOf vs4.toArray e4) :: PP) (al := al') (R := R) (b := 3 * ns.length + i) (by assumption) (by assumption) hpl hal' (by have := (List.getElem?_eq_some_iff.mp hv).1; first | exact Nat.le_trans (Nat.add_le_add (Nat.mul_le_mul_left 3 hns) (Nat.le_of_lt (Nat.lt_of_lt_of_le this (Nat.le_of_eq_of_le hvl4 hlen4)))) (by decide) | omega) (by rw [hmap]; exact nda) (fun q hq r hr => Ne.symm (mapoff (q := q.1) (fun r hr => Ne.symm (oal q hq r hr)) r hr)) (fcons (fun r hr => Ne.symm (offI r (List.mem_append_right _ ((List.mem_append_left _ hr))))) (fcons (fun r hr => Ne.symm (mapoff oDA r hr)) (fun q hq r hr => Ne.symm (mapoff (q := q.1) (fun r hr => Ne.symm (oPP q hq r hr)) r hr)))) fun h5 al5 F5 N5 hm5 hal5 => ?_
      ((try k_fold); k_steps)
      have hil := (List.getElem?_eq_some_iff.mp hv).1
      exact ih (vs4.length - (i + 1)) _ (by omega) ⟨i + 1, al5, _, oI', h5, _, _, rfl, hil, rfl, F5, em, N5, hI', hm5.trans hmap, hal5⟩
    | none =>
      have hil : vs4.length ≤ i := List.getElem?_eq_none_iff.mp hv
      (k_dflt (refine' list_stop (r := PP ++ (al' ++ R)) ?hh ?F ?N ?hm ?hI ?ht ?hx ?hs ?ho ?_))
      case hh => exact rfl
      case F => assumption
      case N => assumption
      case hm => exact .head _
      case hI => assumption
      case ht => k_mem
      case hx => simpa using hv
      case hs => exact fun p hp => .tail _ (.tail _ hp)
      case ho => exact fun p hp => offI p (.tail _ hp)
      intro h' F' N'
      clear N F hI ih
      have y1 : ∀ p ∈ R, p ∈ PP ++ (al' ++ R) := fun p hp => List.mem_append_right _ ((List.mem_append_right _ hp))
      have x1 := y1 _ v1
      have x2 := y1 _ v2
      ((try k_fold); k_steps)
      show wpAny _ _ (call (Value.ref 339) [Value.ref H, Value.int ((ns.length : Nat) : Int) t']) _ _ _
      have hkc := hKn.cls
      have hac : ao.cls = .type "dict" := by obtain ⟨es, ep, h1, _⟩ := hAd; exact h1.1
      have hT : ∀ a vs, (a, tupO vs) ∈ (D, tupO (.str x t :: kvs)) :: (L' + 1, okc) :: (ab, W.listOf as.toArray ak) :: (lt, W.listOf ls.toArray lk) :: (kn, ko) :: (av, ao) :: (al ++ R) → (a, tupO vs) ∈ (D, tupO (.str x t :: kvs)) :: R := by
        intro a vs h
        simp only [List.mem_cons, List.mem_append, Prod.mk.injEq] at h ⊢
        rcases h with h | ⟨_, h⟩ | ⟨_, h⟩ | ⟨_, h⟩ | ⟨_, h⟩ | ⟨_, h⟩ | h | h
        · exact .inl h
        · exact absurd (congrArg Obj.data h) (by rw [dkc]; simp)
        · exact absurd h (by simp [W.listOf])
        · exact absurd h (by simp [W.listOf])
        · exact absurd (congrArg Obj.cls h) (by rw [hkc]; simp)
        · exact absurd (congrArg Obj.cls h) (by rw [hac]; simp)
        · obtain ⟨vs', k', e, _⟩ := hAl _ h
          exact absurd e (by simp [W.listOf])
        · exact .inr h
      have K5 := K'.mono hT
      obtain ⟨adn, hvn, tn, vsn, hmn, hkn2⟩ := bank_last K5
      obtain ⟨R5, hR5⟩ : ∃ R5 : Led, R5 = (av, ao') :: (l0, W.listOf #[] 0) :: (ab, W.listOf as'.toArray ak') :: (lt, W.listOf ls'.toArray lk') :: (nl, W.listOf nv'.toArray nk') :: (nd, no') :: (wl, W.listOf wv'.toArray wk') :: (dl, W.listOf dv'.toArray dk') :: (D, tupO (.str x t :: kvs)) :: (L' + 1, okc) :: (al' ++ R) := ⟨_, rfl⟩
      have N6 := News_sub (news' := (kn, ko) :: R5) N' (by rw [hPP, hR5]; (k_extra "sub9"))
      clear N'
      have y5 : ∀ p ∈ (D, tupO (.str x t :: kvs)) :: R, p ∈ R5 := by rw [hR5]; (k_extra "sub9")
      have y6 : ∀ p ∈ R, p ∈ R5 := fun p hp => y5 p (.tail _ hp)
      have o9 : ∀ p ∈ R5, p.1 ≠ kn := by
        rw [hR5]
        refine fcons (o7 (av, ao) (.head _)) (fcons (Nat.ne_of_gt (l1a (kn, ko) (by k_mem))) (fcons (Ne.symm (o5 _ (.head _))) (fcons (Ne.symm (o6 _ (.head _))) (fcons (Ne.symm (o1 _ (.tail _ (.tail _ (.head _))))) (fcons (Ne.symm (o2 _ (.tail _ (.tail _ (.head _))))) (fcons (Ne.symm (o3 _ (.tail _ (.tail _ (.head _))))) (fcons (Ne.symm (o4 _ (.tail _ (.tail _ (.head _))))) (fcons (Nat.ne_of_gt (lD _ (.tail _ (.tail _ (.tail _ (.head _)))))) (fcons (Nat.ne_of_gt (hmax _ (.tail _ (.tail _ (.tail _ (.tail _ (.tail _ (.tail _ (.head _))))))))) ?_)))))))))
        exact fapp (mapoff fun r hr => o7 r (.tail _ (List.mem_append_left _ hr))) (fun p hp => o7 p (.tail _ (List.mem_append_right _ hp)))
      have hks2 : ks.length ≤ 2 := by rw [← Paired.length hks]; exact hlk
      have hn28 : ns.length ≤ 28 := by first | exact le9 hns (by decide) | omega
      (k_here; (with_reducible show wpAny _ _ (call (Value.ref 339) _) _ _ _); k_dflt (refine' Fn.useK ?kC ?kB ?kF ?kX ?kN ?kT ?kk ?kd ?ku ?_; (case kB => k_asm); (case kF => k_asm); (case kX => k_asm); (case kN => k_asm); (case kT => k_asm); (case kk => first | exact rfl | assumption); (case kC => exact (lookat_spec (rest := R5) (y6 _ v1) (y6 _ v2) (y6 _ v5) (y6 _ v6) (by rw [hR5]; k_mem) hI' hn28 (y6 _ v3) (y6 _ v4) (by rw [hR5]; k_mem) hvn (y5 _ hmn) hkn2 hlow hks2 (hKn.mono y6) rfl hnew lo2 o9)); (case kd => ktr_room); (case ku => ktr_units)); (intro KQ9 hKQ9 r9 news9 h9 tk9 dr9 F9 N9 P9); (obtain ⟨ko', D2, e1, e2, hKn', lD5, lD6⟩ := P9); (replace e1 := Eq.symm e1); (subst e1); (try subst e2); (refine hKQ9 _ _ _ _ ?_); (clear hKQ9 KQ9); (try dsimp only))
      ((try k_fold); k_steps)
      have hKn2 : NumDict w ko' ((D2, tupO (.str x tn :: vsn)) :: (D, tupO (.str x t :: kvs)) :: R) (ns ++ [(x, ks)]) := hKn'.monoT fun a vs h => by
        rw [hR5] at h
        have hac' : ao'.cls = .type "dict" := by obtain ⟨es, ep, h1, _⟩ := hAd'; exact h1.1
        have hnc' := K5.nums.cls
        simp only [List.mem_cons, List.mem_append, Prod.mk.injEq] at h ⊢
        rcases h with h | ⟨_, h⟩ | ⟨_, h⟩ | ⟨_, h⟩ | ⟨_, h⟩ | ⟨_, h⟩ | ⟨_, h⟩ | ⟨_, h⟩ | ⟨_, h⟩ | h | ⟨_, h⟩ | h | h
        · exact .inl h
        · exact absurd (congrArg Obj.cls h) (by rw [hac']; simp)
        · exact absurd h (by simp [W.listOf])
        · exact absurd h (by simp [W.listOf])
        · exact absurd h (by simp [W.listOf])
        · exact absurd h (by simp [W.listOf])
        · exact absurd (congrArg Obj.cls h) (by rw [hnc']; simp)
        · exact absurd h (by simp [W.listOf])
        · exact absurd h (by simp [W.listOf])
        · exact .inr (.inl h)
        · exact absurd (congrArg Obj.data h) (by rw [dkc]; simp)
        · obtain ⟨vs', k', e, _⟩ := hal' _ h
          exact absurd e (by simp [W.listOf])
        · exact .inr (.inr h)
      have hkN := ‹News h₀ L _ ((kn, ko') :: (D2, tupO (.str x tn :: vsn)) :: R5)›
      rw [hR5] at hkN lD5
      refine hret _ ((nl, W.listOf nv'.toArray nk') :: (nd, no') :: (wl, W.listOf wv'.toArray wk') :: (dl, W.listOf dv'.toArray dk') :: (ab, W.listOf as'.toArray ak') :: (lt, W.listOf ls'.toArray lk') :: (kn, ko') :: (av, ao') :: (((l0, W.listOf #[] 0) :: al') ++ ([(D2, tupO (.str x tn :: vsn)), (D, tupO (.str x t :: kvs))] ++ R))) _ _ _ (by assumption) (News_sub hkN (by (k_extra "sub9")))
        ⟨nv', wv', dv', as', ls', no', ko', ao', nk', wk', dk', ak', lk', l0, (l0, W.listOf #[] 0) :: al', [(D2, tupO (.str x tn :: vsn)), (D, tupO (.str x t :: kvs))], _, rfl, rfl, K5.mono (fun a vs h => .tail _ h), hI', hL', hKn2, ?_, ?_, by rw [List.map_cons, hmap], ?_, ?_⟩
      · refine ⟨stored kvsA ((ns.length : Nat) : Int) (Value.ref l0), hAd', Nat.le_trans (stored_length _ _ _) (Nat.succ_le_succ hAlen), fun c hc => ?_⟩
        by_cases hcn : c = ns.length
        · subst hcn; exact ⟨l0, _, valueAt_stored_self, .head _⟩
        · obtain ⟨pc, obc, hpv, hpm⟩ := hAv c (by omega)
          have : pc ∈ al'.map (·.1) := by rw [hmap]; exact List.mem_map.mpr ⟨_, hpm, rfl⟩
          obtain ⟨⟨r1, r2⟩, hr, e⟩ := List.mem_map.mp this
          simp only at e; subst e
          exact ⟨r1, r2, by rw [valueAt_stored_ne (by omega)]; exact hpv, .tail _ hr⟩
      · exact fcons (⟨[], 0, rfl, Nat.zero_le _⟩) (hal'.mono (by first | exact Nat.add_le_add_left (Nat.le_trans hi (Nat.le_trans (Nat.le_of_eq_of_le hvl4 hlen4) (by decide))) _ | omega))
      · have hDl : @LT.lt Nat _ D l0 := l1a (D, tupO (.str x t :: kvs)) (by k_mem)
        have hDD : @LT.lt Nat _ D D2 := lD5 (D, tupO (.str x t :: kvs)) (by k_mem)
        have hold : ∀ q ∈ (nl, W.listOf nv.toArray nk) :: (nd, no) :: (wl, W.listOf wv.toArray wk) :: (dl, W.listOf dv.toArray dk) :: (ab, W.listOf as.toArray ak) :: (lt, W.listOf ls.toArray lk) :: (kn, ko) :: (av, ao) :: (al ++ R), @LT.lt Nat _ q.1 D :=
          fcons lD1 (fcons lD2 (fcons lD3 (fcons lD4 (fun q hq => lD q (.tail _ hq)))))
        exact fun q hq => ⟨Nat.lt_trans (hold q hq) hDl, fcons (Nat.lt_trans (hold q hq) hDD) (fcons (hold q hq) (fun _ h => nomatch h))⟩
      · have hDl : @LT.lt Nat _ D l0 := l1a (D, tupO (.str x t :: kvs)) (by k_mem)
        have hlD2 : @LT.lt Nat _ l0 D2 := lD5 (l0, W.listOf #[] 0) (by k_mem)
        exact fcons (Nat.ne_of_gt hlD2) (fcons (Nat.ne_of_lt hDl) (fun _ h => nomatch h))

end

section
set_option maxHeartbeats 4000000
theorem Fn.weaken {w : World} {f : Addr} {sz : Nat} {vs : List Value} {news : Led} {P Q : Led → Value → Prop} (C : Fn w f sz vs news P) (h : ∀ news' r, P news' r → Q news' r) : Fn w f sz vs news Q :=
  fun loose mean mg mb dp un gd cn cs a ccd cl outer A₀ base h₀ L m s R E B F X N T hk hd hu ret => C loose mean mg mb dp un gd cn cs a ccd cl outer A₀ base h₀ L m s R E B F X N T hk hd hu fun r n h' tk dr F' N' p => ret r n h' tk dr F' N' (h n r p)
theorem Fn.grow {w : World} {f : Addr} {sz sz' : Nat} {vs : List Value} {news : Led} {P : Led → Value → Prop} (C : Fn w f sz vs news P) (h : sz ≤ sz') : Fn w f sz' vs news P :=
  fun loose mean mg mb dp un gd cn cs a ccd cl outer A₀ base h₀ L m s R E B F X N T hk hd hu ret => C loose mean mg mb dp un gd cn cs a ccd cl outer A₀ base h₀ L m s R E B F X N T hk (by omega) (by omega) ret
noncomputable def AddPost (w : World) (a : HP) (v : HV) (ns : List Nd) (rest : Led) (nd : Nd) (news' : Led) (r : Value) : Prop :=
  Ex5 fun (v' : HV) (ns' : List Nd) (tl : Led) (i : Nat) (t' : Tok) => And6 (news' = mutL a v' ++ (tl ++ rest)) (HOk w a v' ns' (tl ++ rest)) (∃ more, ns' = ns ++ more ∧ more.length ≤ 1) (r = .int (i : Int) t') (ns'[i]? = some nd) (∀ p ∈ tl, ∀ q ∈ mutL a v ++ rest, @LT.lt Nat _ q.1 p.1)
theorem add_spec {w : World} {rest : Led} {a : HP} {T : HT} {v : HV} {ns : List Nd} {kt : Nat} {kvs : List Value} {x : Str} {t : Tok} {ks : List Nat} (V : HFix w a T rest) (O : HOk w a v ns rest) (hkt : (kt, tupO kvs) ∈ rest) (hks : NatsAre kvs ks) (hlk : kvs.length ≤ 2) (hns : ns.length ≤ 20) (hx : x ∈ OPS) (hlow : ∀ k ∈ ks, k < ns.length) :
    Fn w 327 90 [.ref a.H, .str x t, .ref kt] (mutL a v ++ rest) (AddPost w a v ns rest (x, ks)) := by
  by_cases hm : (x, ks) ∈ ns
  · obtain ⟨i, hi⟩ := List.mem_iff_getElem?.mp hm
    have up : ∀ p ∈ rest, p ∈ (a.ab, W.listOf v.as.toArray v.ak) :: (a.lt, W.listOf v.ls.toArray v.lk) :: (a.kn, v.ko) :: (a.av, v.ao) :: (v.al ++ rest) := fun p hp => .tail _ (.tail _ (.tail _ (.tail _ (List.mem_append_right _ hp))))
    have C := add_found0 (nk := v.nk) (wk := v.wk) (dk := v.dk) (t := t) (up _ V.H) (up _ V.Hd) (up _ V.B) (up _ V.Bd) (up _ V.U) (up _ V.Ud) (.head _) (O.bank.mono fun _ _ h => up _ h) O.lo1 O.idx (up _ hkt) hks hlk hns hi
    refine Fn.weaken (Fn.grow (sz' := 90) C (by decide)) ?_
    rintro news' r ⟨rfl, t', rfl⟩
    exact ⟨v, ns, [], i, t', rfl, O, ⟨[], by simp, by simp⟩, rfl, hi, fun _ h => nomatch h⟩
  · have ap := O.apart
    have of := O.off
    simp only [mutL, List.map_cons, List.nodup_cons, List.mem_cons, not_or] at ap
    obtain ⟨⟨a1, a2, a3, a4, a5, a6, a7, a8⟩, ⟨b1, b2, b3, b4, b5, b6, b7⟩, ⟨c1, c2, c3, c4, c5, c6⟩, ⟨d1, d2, d3, d4, d5⟩, ⟨e1, e2, e3, e4⟩, ⟨f1, f2, f3⟩, ⟨g1, g2⟩, h1, hnd⟩ := ap
    have nm : ∀ {q : Nat}, ¬ (q ∈ v.al.map (·.1)) → ∀ r ∈ v.al, r.1 ≠ q := fun h r hr e => h (e ▸ List.mem_map.mpr ⟨r, hr, rfl⟩)
    have inm : ∀ q ∈ v.al, q ∈ mutL a v := fun q hq => .tail _ (.tail _ (.tail _ (.tail _ (.tail _ (.tail _ (.tail _ (.tail _ hq)))))))
    have C := add_new0 (nk := v.nk) (wk := v.wk) (dk := v.dk) (ak := v.ak) (lk := v.lk) (t := t) V.H V.Hd V.B V.Bd V.U V.Ud O.bank O.lo1 O.lo2 O.lo3 O.idx O.lts O.kn O.av O.al hkt hks hlk hns hm hx hlow
      (fcons (Ne.symm a4) (fcons (Ne.symm a5) (fcons (Ne.symm a6) (fcons (Ne.symm a7) (fapp (nm a8) (fun p hp => of p hp _ (.head _)))))))
      (fcons (Ne.symm b3) (fcons (Ne.symm b4) (fcons (Ne.symm b5) (fcons (Ne.symm b6) (fapp (nm b7) (fun p hp => of p hp _ (.tail _ (.head _))))))))
      (fcons (Ne.symm c2) (fcons (Ne.symm c3) (fcons (Ne.symm c4) (fcons (Ne.symm c5) (fapp (nm c6) (fun p hp => of p hp _ (.tail _ (.tail _ (.head _)))))))))
      (fcons (Ne.symm d1) (fcons (Ne.symm d2) (fcons (Ne.symm d3) (fcons (Ne.symm d4) (fapp (nm d5) (fun p hp => of p hp _ (.tail _ (.tail _ (.tail _ (.head _))))))))))
      a1 a2 a3 b1 b2 c1
      (fcons (Ne.symm e2) (fcons (Ne.symm e3) (fapp (nm e4) (fun p hp => of p hp _ (.tail _ (.tail _ (.tail _ (.tail _ (.head _)))))))))
      (fcons (Ne.symm f1) (fcons (Ne.symm f2) (fapp (nm f3) (fun p hp => of p hp _ (.tail _ (.tail _ (.tail _ (.tail _ (.tail _ (.head _))))))))))
      e1
      (fcons (Ne.symm g1) (fapp (nm g2) (fun p hp => of p hp _ (.tail _ (.tail _ (.tail _ (.tail _ (.tail _ (.tail _ (.head _))))))))))
      (fapp (nm h1) (fun p hp => of p hp _ (.tail _ (.tail _ (.tail _ (.tail _ (.tail _ (.tail _ (.tail _ (.head _))))))))))
      hnd (fun p hp q hq => of p hp q (inm q hq))
    refine Fn.weaken C ?_
    rintro news' r ⟨nv', wv', dv', as', ls', no', ko', ao', nk', wk', dk', ak', lk', l0, al', R', t', rfl, rfl, K', hI', hL', hKn', hA', hAl', hmap, hold, hR⟩
    have hml : mutL a v ++ rest = (a.nl, W.listOf v.nv.toArray v.nk) :: (a.nd, v.no) :: (a.wl, W.listOf v.wv.toArray v.wk) :: (a.dl, W.listOf v.dv.toArray v.dk) :: (a.ab, W.listOf v.as.toArray v.ak) :: (a.lt, W.listOf v.ls.toArray v.lk) :: (a.kn, v.ko) :: (a.av, v.ao) :: (v.al ++ rest) := rfl
    rw [← hml] at hold
    have hfst : ((mutL a ⟨nv', wv', dv', as', ls', no', ko', ao', nk', wk', dk', ak', lk', al'⟩).map (·.1)) = [a.nl, a.nd, a.wl, a.dl, a.ab, a.lt, a.kn, a.av] ++ (l0 :: v.al.map (·.1)) := by
      simp only [mutL, List.map_cons, hmap, List.cons_append, List.nil_append]
    have hfst0 : ((mutL a v).map (·.1)) = [a.nl, a.nd, a.wl, a.dl, a.ab, a.lt, a.kn, a.av] ++ v.al.map (·.1) := by
      simp only [mutL, List.map_cons, List.cons_append, List.nil_append]
    have hlt0 : ∀ q ∈ (mutL a v).map (·.1), @LT.lt Nat _ q l0 := fun q hq => by
      obtain ⟨p, hp, rfl⟩ := List.mem_map.mp hq
      exact (hold p (List.mem_append_left _ hp)).1
    have hmem : ∀ q ∈ mutL a ⟨nv', wv', dv', as', ls', no', ko', ao', nk', wk', dk', ak', lk', al'⟩, q.1 = l0 ∨ ∃ q' ∈ mutL a v, q'.1 = q.1 := by
      intro q hq
      have h1 : q.1 ∈ (mutL a ⟨nv', wv', dv', as', ls', no', ko', ao', nk', wk', dk', ak', lk', al'⟩).map (·.1) := List.mem_map.mpr ⟨q, hq, rfl⟩
      rw [hfst] at h1
      have h2 : q.1 = l0 ∨ q.1 ∈ (mutL a v).map (·.1) := by
        rw [hfst0]
        rcases List.mem_append.mp h1 with h | h
        · exact .inr (List.mem_append_left _ h)
        · rcases List.mem_cons.mp h with h | h
          · exact .inl h
          · exact .inr (List.mem_append_right _ h)
      rcases h2 with h | h
      · exact .inl h
      · obtain ⟨q', hq', e⟩ := List.mem_map.mp h
        exact .inr ⟨q', hq', e⟩
    refine ⟨⟨nv', wv', dv', as', ls', no', ko', ao', nk', wk', dk', ak', lk', al'⟩, ns ++ [(x, ks)], R', ns.length, t', rfl, ⟨K', ?_, ?_, hKn', ?_, ?_, ?_, ?_, ?_, O.lo1, O.lo2, O.lo3⟩, ⟨_, rfl, by simp⟩, rfl, by simp, fun p hp q hq => (hold q hq).2 p hp⟩
    · rw [List.length_append]; exact hI'
    · rw [List.length_append]; exact hL'
    · rw [List.length_append]; exact hA'
    · rw [List.length_append]; exact hAl'
    · intro i n hi
      rw [List.getElem?_append] at hi
      split at hi
      · exact O.low i n hi
      · have h1 := (List.getElem?_eq_some_iff.mp hi).1
        simp at h1
        have : i = ns.length := by omega
        subst this
        simp at hi
        subst hi
        exact ⟨hlow, by rw [← Paired.length hks]; exact hlk⟩
    · rw [hfst]
      have h0 := O.apart
      rw [hfst0] at h0 hlt0
      rw [List.nodup_append] at h0 ⊢
      refine ⟨h0.1, List.nodup_cons.mpr ⟨fun h => Nat.lt_irrefl _ (hlt0 l0 (List.mem_append_right _ h)), h0.2.1⟩, fun q hq b hb => ?_⟩
      rcases List.mem_cons.mp hb with rfl | hb
      · exact Nat.ne_of_lt (hlt0 q (List.mem_append_left _ hq))
      · exact h0.2.2 q hq b hb
    · intro p hp q hq
      rcases List.mem_append.mp hp with hp | hp
      · rcases hmem q hq with h | ⟨q', hq', e⟩
        · rw [h]; exact hR p hp
        · rw [← e]; exact Nat.ne_of_gt ((hold q' (List.mem_append_left _ hq')).2 p hp)
      · rcases hmem q hq with h | ⟨q', hq', e⟩
        · rw [h]; exact Nat.ne_of_lt (hold p (List.mem_append_right _ hp)).1
        · rw [← e]; exact O.off p hp q' hq'

end

section
set_option maxHeartbeats 4000000
inductive Num (ns : List Nd) : Tm → Nat → Prop
  | l {x i} : ns[i]? = some (x, []) → Num ns (.l x) i
  | f {x i j} : ns[i]? = some (Str.ofString "f", [j]) → ns[j]? = some (x, []) → Num ns (.f x) i
  | gll {x y i j k} : ns[i]? = some (Str.ofString "g", [j, k]) → ns[j]? = some (x, []) → ns[k]? = some (y, []) → Num ns (.gll x y) i
  | gfl {x y i j k m} : ns[i]? = some (Str.ofString "g", [j, k]) → ns[j]? = some (Str.ofString "f", [m]) → ns[m]? = some (x, []) → ns[k]? = some (y, []) → Num ns (.gfl x y) i
  | gff {x y i j k m n} : ns[i]? = some (Str.ofString "g", [j, k]) → ns[j]? = some (Str.ofString "f", [m]) → ns[m]? = some (x, []) → ns[k]? = some (Str.ofString "f", [n]) → ns[n]? = some (y, []) → Num ns (.gff x y) i
theorem at_more {ns more : List Nd} {i : Nat} {n : Nd} (h : ns[i]? = some n) : (ns ++ more)[i]? = some n := by
  rw [List.getElem?_append_left (List.getElem?_eq_some_iff.mp h).1]; exact h
theorem Num.more {ns more : List Nd} {T : Tm} {i : Nat} (h : Num ns T i) : Num (ns ++ more) T i := by
  cases h with
  | l a => exact .l (at_more a)
  | f a b => exact .f (at_more a) (at_more b)
  | gll a b c => exact .gll (at_more a) (at_more b) (at_more c)
  | gfl a b c d => exact .gfl (at_more a) (at_more b) (at_more c) (at_more d)
  | gff a b c d e => exact .gff (at_more a) (at_more b) (at_more c) (at_more d) (at_more e)
theorem Num.lt {ns : List Nd} {T : Tm} {i : Nat} (h : Num ns T i) : i < ns.length := by
  cases h with
  | l a => exact (List.getElem?_eq_some_iff.mp a).1
  | f a b => exact (List.getElem?_eq_some_iff.mp a).1
  | gll a b c => exact (List.getElem?_eq_some_iff.mp a).1
  | gfl a b c d => exact (List.getElem?_eq_some_iff.mp a).1
  | gff a b c d e => exact (List.getElem?_eq_some_iff.mp a).1
theorem Num.leaf {ns : List Nd} {x : Str} {i : Nat} (h : Num ns (.l x) i) : ns[i]? = some (x, []) := by cases h with | l a => exact a
theorem Num.fleaf {ns : List Nd} {x : Str} {i : Nat} (h : Num ns (.f x) i) : ∃ j, ns[i]? = some (Str.ofString "f", [j]) ∧ ns[j]? = some (x, []) := by cases h with | f a b => exact ⟨_, a, b⟩
theorem Num.mk {ns : List Nd} {T : Tm} {i : Nat} {ks : List Nat} (h : ns[i]? = some (T.op, ks)) (hk : Paired (fun k U => Num ns U k) ks T.kids) : Num ns T i := by
  cases T with
  | l x => obtain rfl := Paired.none hk; exact .l h
  | f x => obtain ⟨_, rfl, h1⟩ := Paired.one (b := Tm.l x) hk; exact .f h h1.leaf
  | gll x y => obtain ⟨_, _, rfl, h1, h2⟩ := Paired.two (b := Tm.l x) (c := Tm.l y) hk; exact .gll h h1.leaf h2.leaf
  | gfl x y => obtain ⟨_, _, rfl, h1, h2⟩ := Paired.two (b := Tm.f x) (c := Tm.l y) hk; obtain ⟨m, a, b⟩ := h1.fleaf; exact .gfl h a b h2.leaf
  | gff x y => obtain ⟨_, _, rfl, h1, h2⟩ := Paired.two (b := Tm.f x) (c := Tm.f y) hk; obtain ⟨m, a, b⟩ := h1.fleaf; obtain ⟨n, c, d⟩ := h2.fleaf; exact .gff h a b c d
noncomputable def nodup_at {ns : List Nd} (h : ns.Nodup) {i j : Nat} {n : Nd} (hi : ns[i]? = some n) (hj : ns[j]? = some n) : i = j :=
  (List.getElem?_inj (List.getElem?_eq_some_iff.mp hi).1 h).mp (hi.trans hj.symm)
theorem Num.inj {ns : List Nd} (h : ns.Nodup) {T : Tm} {i j : Nat} (hi : Num ns T i) (hj : Num ns T j) : i = j := by
  cases hi with
  | l a => exact nodup_at h a hj.leaf
  | f a b =>
    obtain ⟨k, c, d⟩ := hj.fleaf
    obtain rfl := nodup_at h b d
    exact nodup_at h a c
  | gll a b c =>
    cases hj with | gll a' b' c' =>
    obtain rfl := nodup_at h b b'
    obtain rfl := nodup_at h c c'
    exact nodup_at h a a'
  | gfl a b c d =>
    cases hj with | gfl a' b' c' d' =>
    obtain rfl := nodup_at h c c'
    obtain rfl := nodup_at h b b'
    obtain rfl := nodup_at h d d'
    exact nodup_at h a a'
  | gff a b c d e =>
    cases hj with | gff a' b' c' d' e' =>
    obtain rfl := nodup_at h c c'
    obtain rfl := nodup_at h b b'
    obtain rfl := nodup_at h e e'
    obtain rfl := nodup_at h d d'
    exact nodup_at h a a'
noncomputable def opAt (ns : List Nd) (i : Nat) : Str := ((ns[i]?).map (·.1)).getD Str.empty
noncomputable def ksAt (ns : List Nd) (i : Nat) : List Nat := ((ns[i]?).map (·.2)).getD []
noncomputable def readT (ns : List Nd) (i : Nat) : Tm := match ksAt ns i with
  | [] => .l (opAt ns i)
  | [j] => .f (opAt ns j)
  | j :: k :: _ => match ksAt ns j with
    | [] => .gll (opAt ns j) (opAt ns k)
    | m :: _ => match ksAt ns k with
      | [] => .gfl (opAt ns m) (opAt ns k)
      | n :: _ => .gff (opAt ns m) (opAt ns n)
theorem Num.read {ns : List Nd} {T : Tm} {i : Nat} (h : Num ns T i) : readT ns i = T := by
  have o : ∀ {i : Nat} {x : Str} {l : List Nat}, ns[i]? = some (x, l) → opAt ns i = x := fun h => by rw [opAt, h]; rfl
  have k : ∀ {i : Nat} {x : Str} {l : List Nat}, ns[i]? = some (x, l) → ksAt ns i = l := fun h => by rw [ksAt, h]; rfl
  unfold readT
  cases h with
  | l a => rw [k a, o a]
  | f a b => rw [k a]; dsimp only; rw [o b]
  | gll a b c => rw [k a]; dsimp only; rw [k b]; dsimp only; rw [o b, o c]
  | gfl a b c d => rw [k a]; dsimp only; rw [k b]; dsimp only; rw [k d]; dsimp only; rw [o c, o d]
  | gff a b c d e => rw [k a]; dsimp only; rw [k b]; dsimp only; rw [k d]; dsimp only; rw [o c, o e]
theorem Num.fun {ns : List Nd} {T U : Tm} {i : Nat} (hT : Num ns T i) (hU : Num ns U i) : T = U := hT.read.symm.trans hU.read

end

section
set_option maxHeartbeats 4000000
section
open PyProof.Rows.LCg
variable {prog : Program} {w : World} {A : Around} {E : Value → Shared → Prop} {h₀ : Heap} {L C D : Addr} {m mC : Str → Option Value} {ys : List Value} {s : Shared} {env : Env}
theorem compK_tup (_ : Fr h₀ L s.heap m) {elt it : PySem.Expr} {xn : Str} {px : Pos} {scope : Scope} {pos : Pos} {cl : List (Str × Addr)} {Q : Value → Shared → Prop}
    (hh : A.handled = none) (hclos : closureFor scope env = pure cl) (hcell : ∀ y ∈ scope.names, y.2 ≠ .cell) (hkind : scope.kind = .function) (hnames : ∀ y ∈ scope.names, y.2 = .local → scope.names.lookup y.1 = some .local)
    (hs : ∀ x, foldedSetIterable it env x = pure x) (hxn : ∀ C, (compEnvC scope cl C env).kindOf xn = some .local)
    (h : wpAny (model prog w) A (eval it env) (fun xv s₁ => Hold (Ex5 fun ax vs l kept (J : Nat → List Value → Led → Prop) => And10 (xv = .ref ax) (Fr h₀ L s₁.heap m) (News h₀ L s₁.heap l) ((ax, tupO vs) ∈ kept) (∀ p ∈ kept, p ∈ l) (vs.length ≤ 1000) (J 0 [] l) (∀ i ys nw, J i ys nw → ys.length ≤ i) (∀ i v ys nw zl C D h tk dr (mC : Str → Option Value) (E' : Value → Shared → Prop), vs[i]? = some v → J i ys nw → (∀ p ∈ kept, p ∈ nw) → CV h₀ L m C D (fun y => if y = xn then some v else mC y) ys (zl ++ nw) h → (∀ q ∈ zl, ∀ p ∈ nw, p.1 ≠ q.1) → (∀ q ∈ zl, q.2.cls = .type "tuple_iterator") →
        wpAny (model prog w) A (eval elt (compEnvC scope cl C env)) (CvE h₀ L m C D zl kept ys (J (i + 1)) s₁) E' { s₁ with heap := h, toks := tk, drawn := dr }) (∀ D ys nw h tk dr, Fr h₀ L h m → News h₀ L h ((D, lst ys) :: nw) → (∀ p ∈ nw, p.1 ≠ D) → (∀ p ∈ l, p.1 < D) → (∀ p ∈ kept, p ∈ nw) → J vs.length ys nw → Q (.ref D) { s₁ with heap := h, toks := tk, drawn := dr }))) E s) :
    wpAny (model prog w) A (eval (.ListComp elt [⟨PySem.Expr.Name xn px, it, [], 0⟩] scope pos) env) Q E s := by
  rw [eval_ListComp]
  refine wpAny_comprehension_free (use := none) rfl hs hclos hkind hnames (wpAny_mono h (fun xv s₁ h₁ => ?_) fun _ _ e => e)
  obtain ⟨ax, vs, l, kept, J, rfl, F, N, hm, hkl, hsz, hJ, hlen, hb, hQ⟩ := h₁
  have hax := N _ (hkl _ hm)
  have hl : s₁.heap.IsTuple ax vs.toArray := ⟨_, hax.1, rfl, 0, rfl⟩
  have hlt : ax < s₁.heap.objs.size := Heap.lt_size hax.1
  refine wpAny_pyIter_tuple hl ?_
  generalize hH : s₁.heap.push { cls := .type "tuple_iterator", data := .fields #[.ref ax, .int 0 0] } = H
  have up : ∀ b o, s₁.heap.get? b = some o → H.get? b = some o := fun b o e => hH ▸ Heap.get?_push_of_some _ e
  have hIt : H.IsTupleIter s₁.heap.objs.size ax 0 := ⟨_, hH ▸ Heap.get?_push_size _ rfl, rfl, rfl⟩
  have hsz' : H.objs.size = s₁.heap.objs.size + 1 := by rw [← hH, Heap.size_push]
  have fr0 : h₀.get? s₁.heap.objs.size = none := by
    cases e : h₀.get? s₁.heap.objs.size with
    | none => rfl
    | some o' => exact absurd (Heap.lt_size (F.keep _ o' e)) (Nat.lt_irrefl _)
  refine comp_open (s₂ := { s₁ with heap := H }) (fun ys nw => (∀ p ∈ kept, p ∈ nw) ∧ J vs.length ys nw) (F.keeps up) (News.grown N up) (by show _ < H.objs.size; rw [hsz']; exact Nat.lt_succ_self _) hcell hkind (fun s' Q' E' k q => wpAny_pyIter_tupleiter (hIt.at fun o e => k _ o e) q) (fun C D hC tk V hCI hDI k => ?_) (fun D ys nw hD tk dr F' N' o' lt' fin => hQ D ys nw hD tk dr F' N' o' lt' fin.1 fin.2)
  have hoffI : ∀ p ∈ l, p.1 ≠ s₁.heap.objs.size := fun p hp => Nat.ne_of_lt (Heap.lt_size (N p hp).1)
  have W := Walks.tuple (prog := prog) (w := w) hh s₁.heap.objs.size ax (Nat.ne_of_lt hlt) vs.toArray
  have hIL : L ≠ s₁.heap.objs.size := Nat.ne_of_lt F.ns.lt
  refine cv_gen (s := { s₁ with heap := hC, toks := tk }) (pos := it.pos) (body := fun v => letOwnedTupleGo (PySem.Expr.Name xn px) (.ref s₁.heap.objs.size) v >>= fun _ => assign (PySem.Expr.Name xn px) (compEnvC scope cl C env) v >>= fun _ =>
        (eval elt (compEnvC scope cl C env) >>= fun x => call (.builtin "list.append") [.ref D, x] >>= fun _ => pure ()) >>= fun _ => again (.compLoop (.ListComp elt [⟨PySem.Expr.Name xn px, it, [], 0⟩] scope pos) 0 (.ref s₁.heap.objs.size) (.ref D) (compEnvC scope cl C env))) (n := vs.length)
    (fun i s' => Ex7 fun ys nw h tk dr mC oI => And6 (s' = { s₁ with heap := h, toks := tk, drawn := dr }) (CV h₀ L m C D mC ys ((s₁.heap.objs.size, oI) :: nw) h) (h.IsTupleIter s₁.heap.objs.size ax i) (∀ p ∈ kept, p ∈ nw) (∀ p ∈ nw, p.1 ≠ s₁.heap.objs.size) (J i ys nw)) rfl rfl rfl rfl ?st ?sp ?s0
  case s0 =>
    obtain ⟨oI, heI, _⟩ := hIt.at fun o e => k _ o e
    exact ⟨[], l, hC, _, _, _, oI, rfl, V.add heI (Ne.symm hCI) (Ne.symm hDI) (Ne.symm hIL) fr0, hIt.at fun o e => k _ o e, hkl, hoffI, hJ⟩
  case st =>
    rintro i _ E' hi ⟨ys, nw, h, tk', dr, mC, oI, rfl, V', hit, hk', hoff, hJ'⟩
    have hv : vs.toArray[i]? = some vs[i] := by simp [hi]
    have htt := (V'.N _ (List.mem_cons_of_mem _ (hk' _ hm))).1
    refine W.item i _ _ _ (by simpa using hi) ⟨hit, ⟨_, htt, rfl, 0, rfl⟩⟩ fun v h₂ tk₂ hP hst₂ hk₂ => ?_
    have hv' : vs[i]? = some v := by simpa using hP
    refine ⟨v, rfl, ?_⟩
    have V₂ := (V'.sub (news' := nw) fun p hp => .tail _ hp).but (fun b o hb e => hk₂ b o (by simpa using hb) e) hCI hDI hIL fr0 hoff
    obtain ⟨oI₂, heI₂, hcI₂, _⟩ := id hst₂.1
    have V₃ := V₂.add heI₂ (Ne.symm hCI) (Ne.symm hDI) (Ne.symm hIL) fr0
    refine wpAny_bind ?_
    unfold letOwnedTupleGo
    refine wpAny_pure (wpAny_bind ?_)
    refine cv_store (s := { s₁ with heap := h₂, toks := tk₂, drawn := dr }) V₃ rfl hkind (hxn C) fun h₃ V₄ => ?_
    refine wpAny_bind (wpAny_bind (wpAny_mono (hb i v ys nw [(s₁.heap.objs.size, oI₂)] C D h₃ _ dr mC E' hv' hJ' hk' V₄ (fun q hq p hp => by rw [List.mem_singleton.mp hq]; exact hoff p hp) (fun q hq => by rw [List.mem_singleton.mp hq]; exact hcI₂)) (fun y s₄ h₄ => ?_) fun _ _ e => e))
    obtain ⟨nw', h', tk'', dr', mC', rfl, V₅, hk₅, ho₅, hJ₅⟩ := h₄
    refine wpAny_bind (cv_append (s := { s₁ with heap := h', toks := tk'', drawn := dr' }) V₅ (by have := hlen _ _ _ hJ'; rw [sizeLine_eq]; omega) fun h'' V₆ => wpAny_pure (wpAny_pure ⟨rfl, ys ++ [y], nw', h'', tk'', dr', mC', oI₂, rfl, V₆, ?_, hk₅, fun p hp => ho₅ _ (.head _) p hp, hJ₅⟩))
    obtain ⟨o', e', r'⟩ := hst₂.1
    rw [heI₂] at e'; cases e'
    exact ⟨oI₂, (V₆.N _ (.head _)).1, r'⟩
  case sp =>
    rintro _ E' ⟨ys, nw, h, tk', dr, mC, oI, rfl, V', hit, hk', hoff, hJ'⟩
    have htt := (V'.N _ (List.mem_cons_of_mem _ (hk' _ hm))).1
    refine W.done _ _ _ (by simpa using ⟨hit, ⟨_, htt, rfl, 0, rfl⟩⟩) fun h₂ tk₂ hk₂ => ⟨rfl, ?_⟩
    have V₂ := (V'.sub (news' := nw) fun p hp => .tail _ hp).but (fun b o hb e => hk₂ b o (by simpa using hb) e) hCI hDI hIL fr0 hoff
    exact ⟨ys, nw, h₂, tk₂, dr, mC, rfl, rfl, V₂, hk', hJ'⟩
end
theorem Tm.subs_le (T : Tm) : (T.kids.flatMap Tm.subs).length + 1 = T.subs.length := by cases T <;> rfl
theorem Tm.subs_take {T U : Tm} {j : Nat} (h : T.kids[j]? = some U) : ((T.kids.take j).flatMap Tm.subs).length + U.subs.length + 1 ≤ T.subs.length := by
  rw [← T.subs_le]
  refine Nat.succ_le_succ ?_
  obtain ⟨hlt, he⟩ := List.getElem?_eq_some_iff.mp h
  conv => rhs; rw [← List.take_append_drop j T.kids, List.drop_eq_getElem_cons hlt, he]
  rw [List.flatMap_append, List.length_append, List.flatMap_cons, List.length_append]
  omega
theorem Tm.subs_kids {T U S : Tm} (h : U ∈ T.kids) (hS : S ∈ U.subs) : S ∈ T.subs := by
  have e : T.subs = T :: T.kids.flatMap Tm.subs := by cases T <;> rfl
  rw [e]
  exact .tail _ (List.mem_flatMap.mpr ⟨U, h, hS⟩)
theorem HOk.to {w : World} {a : HP} {v : HV} {ns : List Nd} {r r' : Led} (O : HOk w a v ns r) (k : ∀ a vs, (a, tupO vs) ∈ r → (a, tupO vs) ∈ r') (off : ∀ p ∈ r', ∀ q ∈ mutL a v, p.1 ≠ q.1) : HOk w a v ns r' :=
  ⟨O.bank.mono k, O.idx, O.lts, O.kn.monoT k, O.av, O.al, O.low, O.apart, off, O.lo1, O.lo2, O.lo3⟩
theorem NdAt.to {r r' : Led} {a : Addr} {n : Nd} (h : NdAt r a n) (k : ∀ a x t vs, (a, tupO (.str x t :: vs)) ∈ r → (a, tupO (.str x t :: vs)) ∈ r') : NdAt r' a n := let ⟨t, vs, h1, h2⟩ := h; ⟨t, vs, k _ _ _ _ h1, h2⟩
theorem NumDict.to {w : World} {o : Obj} {r r' : Led} {ns : List Nd} (h : NumDict w o r ns) (k : ∀ a x t vs, (a, tupO (.str x t :: vs)) ∈ r → (a, tupO (.str x t :: vs)) ∈ r') : NumDict w o r' ns :=
  let ⟨xs, h1, h2, h3, h4⟩ := h; ⟨xs, h1, h2, fun x hx => (h3 x hx).to k, h4⟩
theorem HOk.to2 {w : World} {a : HP} {v : HV} {ns : List Nd} {r r' : Led} (O : HOk w a v ns r) (k : ∀ a x t vs, (a, tupO (.str x t :: vs)) ∈ r → (a, tupO (.str x t :: vs)) ∈ r') (off : ∀ p ∈ r', ∀ q ∈ mutL a v, p.1 ≠ q.1) : HOk w a v ns r' :=
  ⟨⟨Paired.imp (fun _ _ ⟨ad, q1, q2⟩ => ⟨ad, q1, q2.to k⟩) O.bank.nodes, O.bank.nums.to k, O.bank.wl, O.bank.wts, O.bank.dl, O.bank.dps, O.bank.nd⟩, O.idx, O.lts, O.kn.to k, O.av, O.al, O.low, O.apart, off, O.lo1, O.lo2, O.lo3⟩
theorem HOk.kinds {w : World} {a : HP} {v : HV} {ns : List Nd} {r : Led} (O : HOk w a v ns r) : ∀ q ∈ mutL a v, q.2.cls ≠ .type "tuple" := by
  have h1 := O.bank.nums.cls
  have h2 := O.kn.cls
  have h3 : v.ao.cls = .type "dict" := by obtain ⟨kvs, ⟨es, ep, h, _⟩, _⟩ := O.av; exact h.1
  refine fcons (by simp) (fcons (by simp [h1]) (fcons (by simp) (fcons (by simp) (fcons (by simp) (fcons (by simp) (fcons (by simp [h2]) (fcons (by simp [h3]) (fun q hq => ?_))))))))
  obtain ⟨vs, k, e, _⟩ := O.al q hq
  rw [e]; simp
theorem News_ne {h₀ h : Heap} {L : Addr} {l : Led} (N : News h₀ L h l) {p q : Addr × Obj} (hp : p ∈ l) (hq : q ∈ l) (hne : p.2.cls ≠ q.2.cls) : p.1 ≠ q.1 := fun e => hne (by
  have h1 := (N p hp).1
  rw [e, (N q hq).1] at h1
  rw [Option.some.inj h1])
noncomputable def PutPost (w : World) (a : HP) (v : HV) (ns : List Nd) (rest : Led) (T : Tm) (news' : Led) (r : Value) : Prop :=
  Ex5 fun (v' : HV) (ns' : List Nd) (tl : Led) (i : Nat) (t' : Tok) => And6 (news' = mutL a v' ++ (tl ++ rest)) (HOk w a v' ns' (tl ++ rest)) (∃ more, ns' = ns ++ more ∧ more.length ≤ T.subs.length) (r = .int (i : Int) t') (Num ns' T i) (∀ p ∈ tl, ∀ q ∈ rest, @LT.lt Nat _ q.1 p.1)
noncomputable def PutC (w : World) (a : HP) (tk : HT) (n₀ : Led) (T : Tm) (u : Value) : Prop := ∀ (v : HV) (ns : List Nd) (rest : Led), HFix w a tk rest → HOk w a v ns rest → (∀ p ∈ n₀, p ∈ rest) → ns.length + T.subs.length ≤ 20 →
  Fn w 332 (4 * T.sz + 100) [.ref a.H, u] (mutL a v ++ rest) (PutPost w a v ns rest T)
theorem ln_HM_47 : True := by
  k_with "eval ListComp Call cons" => (((k_here; (with_reducible rename Fr _ _ _ _ => F9q9); k_dflt (refine' compK_tup F9q9 ?hhq9 ?hclq9 ?hceq9 ?hkiq9 ?hnaq9 ?hsq9 ?hxq9 ?_; (case hhq9 => exact rfl); (case hclq9 => exact rfl); (case hkiq9 => exact rfl); (case hceq9 => decide); (case hnaq9 => decide); (case hsq9 => (intro _; with_unfolding_all rfl)); (case hxq9 => (intro _; rfl))))) <;> walk_at "hide9a")
  k_with "call ref" => ((with_reducible show wpAny _ _ (call (Value.ref 332) _) _ _ _); refine of_hold ?_)
  k_with "call ref" => ((with_reducible show wpAny _ _ (call (Value.ref 327) _) _ _ _); refine of_hold ?_)
  exact True.intro
theorem put_spec (w : World) (a : HP) (tk : HT) : ∀ (T : Tm) (u : Value) (n₀ : Led), Rel n₀ u T → (∀ U ∈ T.subs, U.op ∈ OPS) → PutC w a tk n₀ T u := by
  have main : ∀ (tm : Tm), (∀ T', T'.sz < tm.sz → ∀ (u : Value) (n₀ : Led), Rel n₀ u T' → (∀ U ∈ T'.subs, U.op ∈ OPS) → PutC w a tk n₀ T' u) → ∀ (u : Value) (n₀ : Led), Rel n₀ u tm → (∀ U ∈ tm.subs, U.op ∈ OPS) → PutC w a tk n₀ tm u := by
    intro tm IH u n₀ hR0 hO v ns rest V O k0 hn
    have hR := hR0.mono k0
    obtain ⟨ad, t, kws, rfl, ha, hks, hkl⟩ := hR.open
    have hkl2 : kws.length < 1000 := by omega
    have hsz := tm.sz_le
    have v1 := V.H
    have v2 := V.Hd
    generalize hM : mutL a v = M at *
    (w_top off; unfold Fn; intro loose mean mg mb dp un gd cn cs a9 ccd cl outer A₀ base h₀ L m s Q E B F X N T hk hdp hun hret; (have kf : KF (rgTop.heap_1 w.params) PySem.Challenge.rw_rg0118_01 := (by k_fill; trivial)); clear kf; refine wpAny_call ?_; k_dflt (refine' code_defC ?k1 ?k2 ?k3 ?k4 ?k5 ?kA ?kF ?kK ?k6 ?k7 ?k8 ?k9 ?kB ?kD ?_ ?c2 ?c3 ?c4; (case kA => exact rfl); (case kF => exact rfl); (case kK => assumption); (case k1 => k_asm); (case k2 => k_asm); (case k3 => k_asm); (case k4 => k_asm); (case k5 => k_asm); (case k6 => k_is); (case k7 => k_is); (case k8 => ktr_room); (case k9 => exact BindsTo.of_eq rfl); (case kB => exact rfl); (case kD => decide +kernel); (case c2 => exact rfl); (case c3 => exact rfl); (case c4 => exact rfl); k_whole; intro g' L' h' tk' cells' FG' F' N' Y' B' X' T' l1; (have l1b := tbn_up (ltN (Nat.lt_succ_self L')) (allLt_of l1)); (try simp only [AllLt, and_true] at l1b); (try k_lt l1); k_cells Y'; (try simp only [List.cons_append, List.nil_append] at N'); (try dsimp only); (try k_fold)))
    rename_i okc dkc
    ((try k_fold); k_steps)
    rename_i D1 z1 F1 N1 lD1
    subst hM
    have hD1m : ∀ p ∈ (L' + 1, okc) :: (mutL a v ++ rest), @LT.lt Nat _ p.1 D1 := AllLt.mem lD1
    have hLm : ∀ p ∈ mutL a v ++ rest, @LT.lt Nat _ p.1 (L' + 1) := AllLt.mem l1b
    clear l1 l1b lD1
    obtain ⟨BASE, hB⟩ : ∃ BASE : Led, BASE = (D1, tupO kws) :: (L' + 1, okc) :: rest := ⟨_, rfl⟩
    have hBr : ∀ p ∈ rest, p ∈ BASE := by rw [hB]; exact fun p hp => .tail _ (.tail _ hp)
    have hcB : (L' + 1, okc) ∈ BASE := by rw [hB]; exact .tail _ (.head _)
    have offB : ∀ p ∈ BASE, ∀ q ∈ mutL a v, p.1 ≠ q.1 := by
      rw [hB]
      exact fcons (fun q hq => Nat.ne_of_gt (hD1m q (.tail _ (List.mem_append_left _ hq)))) (fcons (fun q hq => Nat.ne_of_gt (hLm q (List.mem_append_left _ hq))) O.off)
    have OB : HOk w a v ns BASE := O.to (fun _ _ h => hBr _ h) offB
    have VB := V.mono hBr
    refine ⟨D1, kws, mutL a v ++ BASE, BASE, fun j ys nw => Ex4 fun (v' : HV) (ns' : List Nd) (tl : Led) (ks : List Nat) => And7 (nw = mutL a v' ++ (tl ++ BASE)) (HOk w a v' ns' (tl ++ BASE)) (∃ more, ns' = ns ++ more ∧ more.length ≤ ((tm.kids.take j).flatMap Tm.subs).length) (NatsAre ys ks) (Paired (fun k U => Num ns' U k) ks (tm.kids.take j)) (∀ p ∈ tl, ∀ q ∈ BASE, @LT.lt Nat _ q.1 p.1) (ys.length = j),
      rfl, F1, News_sub N1 (by rw [hB]; (k_extra "sub9")), by rw [hB]; exact .head _, fun p hp => List.mem_append_right _ hp, Nat.le_of_lt hkl2, ⟨v, ns, [], [], rfl, OB, ⟨[], by simp, by simp⟩, .nil, .nil, (fun _ h => nomatch h), rfl⟩, ?zb, ?zt, ?ze⟩
    case zb => (rintro j ys nw ⟨_, _, _, _, _, _, _, _, _, _, h⟩; omega)
    case zt =>
      rintro j v1 ys nw zl C D' hh' tk' dr' mC E' hj ⟨v', ns', tl, ks, rfl, O', ⟨more, rfl, hml⟩, hys, hnum, hgt, hyl⟩ hsub V4' off hzl
      obtain ⟨U, hU, hRv, hUs⟩ := Paired.get hks hj
      have hUm : U ∈ tm.kids := List.mem_of_getElem? hU
      obtain ⟨oC, hn4, N4⟩ := V4'.led
      have F4 := V4'.F
      obtain ⟨G4, hG4⟩ : ∃ G4 : Led, G4 = (D', LCg.lst ys) :: (zl ++ (mutL a v' ++ (tl ++ BASE))) := ⟨_, rfl⟩
      replace N4 := News_sub (news' := (C, oC) :: G4) N4 (by rw [hG4]; exact fun _ h => h)
      have hcB2 : (L' + 1, okc) ∈ G4 := by rw [hG4]; exact .tail _ (List.mem_append_right _ ((List.mem_append_right _ ((List.mem_append_right _ hcB)))))
      have hB2 : ∀ p ∈ BASE, p ∈ G4 := by rw [hG4]; exact fun p hp => .tail _ (List.mem_append_right _ ((List.mem_append_right _ ((List.mem_append_right _ hp)))))
      have v1b := hB2 _ VB.H
      have v2b := hB2 _ VB.Hd
      ((try k_fold); k_steps)
      show wpAny _ _ (call (Value.ref 332) [Value.ref a.H, v1]) _ _ _
      have hst := Tm.subs_take hU
      have offC4 := V4'.offC
      have offD4 := V4'.offD
      have offR : ∀ p ∈ (C, oC) :: (D', LCg.lst ys) :: (zl ++ (tl ++ BASE)), ∀ q ∈ mutL a v', p.1 ≠ q.1 :=
        fcons (fun q hq => Ne.symm (offC4 q (List.mem_append_right _ ((List.mem_append_left _ hq))))) (fcons (fun q hq => Ne.symm (offD4 q (List.mem_append_right _ ((List.mem_append_left _ hq))))) (fapp (fun p hp q hq => Ne.symm (off p hp q (List.mem_append_left _ hq))) O'.off))
      obtain ⟨R4, hR4⟩ : ∃ R4 : Led, R4 = (C, oC) :: (D', LCg.lst ys) :: (zl ++ (tl ++ BASE)) := ⟨_, rfl⟩
      rw [← hR4] at offR
      have N5 := News_sub (news' := mutL a v' ++ R4) N4 (by rw [hG4, hR4]; (k_extra "sub9"))
      have hTB : ∀ p ∈ tl ++ BASE, p ∈ R4 := by rw [hR4]; exact fun p hp => .tail _ (.tail _ (List.mem_append_right _ hp))
      have hBR : ∀ p ∈ BASE, p ∈ R4 := fun p hp => hTB p (List.mem_append_right _ hp)
      have IHC := IH U hUs v1 rest hRv (fun S hS => hO S (Tm.subs_kids hUm hS)) v' (ns ++ more) R4 (VB.mono hBR) (O'.to (fun _ _ h => hTB _ h) offR) (fun p hp => hBR p (hBr p hp)) (by rw [List.length_append]; omega)
      clear N4
      (k_here; (with_reducible show wpAny _ _ (call (Value.ref 332) _) _ _ _); k_dflt (refine' Fn.useK ?kC ?kB ?kF ?kX ?kN ?kT ?kk ?kd ?ku ?_; (case kB => k_asm); (case kF => k_asm); (case kX => k_asm); (case kN => k_asm); (case kT => k_asm); (case kk => first | exact rfl | assumption); (case kC => exact IHC); (case kd => ktr_room); (case ku => ktr_units)); (intro KQ9 hKQ9 r9 news9 h9 tk9 dr9 F9 N9 P9); (obtain ⟨v2, ns2, tl2, i2, ti2, e1, O2, ⟨more2, hm2, hml2⟩, e2, hnum2, hgt2⟩ := P9); (replace e1 := Eq.symm e1); (subst e1); (try subst e2); (refine hKQ9 _ _ _ _ ?_); (clear hKQ9 KQ9); (try dsimp only))
      ((try k_fold); k_steps)
      have mC4 : (C, oC) ∈ R4 := by rw [hR4]; exact .head _
      have mD4 : (D', LCg.lst ys) ∈ R4 := by rw [hR4]; exact .tail _ (.head _)
      have zl4 : ∀ q ∈ zl, q ∈ R4 := by rw [hR4]; exact fun q hq => .tail _ (.tail _ (List.mem_append_left _ hq))
      have inR4 : ∀ q ∈ R4, q ∈ tl2 ++ R4 := fun q hq => List.mem_append_right _ hq
      have tR4 : ∀ p ∈ tl ++ BASE, p ∈ zl ++ (mutL a v' ++ (tl ++ BASE)) := fun p hp => List.mem_append_right _ ((List.mem_append_right _ hp))
      refine ⟨mutL a v2 ++ ((tl2 ++ tl) ++ BASE), h9, tk9, dr9, _, rfl, V4'.back hn4 F9 N9 (List.mem_append_right _ ((inR4 _ mC4))) (List.mem_append_right _ ((inR4 _ mD4))) ?s1 ?s2 ?s3, ?s4, ?s5, v2, ns2, tl2 ++ tl, ks ++ [i2], rfl, O2.to ?s6 ?s7, ⟨more ++ more2, by rw [hm2, List.append_assoc], ?s8⟩, ?s9, ?t1, ?t2, by rw [List.length_append, hyl]; rfl⟩
      case s1 =>
        intro p hp
        rcases List.mem_append.mp hp with hp | hp
        · exact List.mem_append_right _ ((inR4 _ (zl4 p hp)))
        · rcases List.mem_append.mp hp with hp | hp
          · exact List.mem_append_left _ hp
          · rw [List.append_assoc] at hp
            rcases List.mem_append.mp hp with hp | hp
            · exact List.mem_append_right _ ((List.mem_append_left _ hp))
            · exact List.mem_append_right _ ((inR4 _ (hTB p hp)))
      case s2 =>
        refine fapp (fun p hp => offC4 p (List.mem_append_left _ hp)) (fapp (fun p hp => Ne.symm (O2.off _ (inR4 _ mC4) p hp)) ?_)
        rw [List.append_assoc]
        exact fapp (fun p hp => Nat.ne_of_gt (hgt2 p hp _ mC4)) (fun p hp => offC4 p (tR4 p hp))
      case s3 =>
        refine fapp (fun p hp => offD4 p (List.mem_append_left _ hp)) (fapp (fun p hp => Ne.symm (O2.off _ (inR4 _ mD4) p hp)) ?_)
        rw [List.append_assoc]
        exact fapp (fun p hp => Nat.ne_of_gt (hgt2 p hp _ mD4)) (fun p hp => offD4 p (tR4 p hp))
      case s4 => exact fun p hp => List.mem_append_right _ ((List.mem_append_right _ hp))
      case s5 =>
        intro q hq
        refine fapp (fun p hp => Ne.symm (O2.off _ (inR4 _ (zl4 q hq)) p hp)) ?_
        rw [List.append_assoc]
        exact fapp (fun p hp => Nat.ne_of_gt (hgt2 p hp _ (zl4 q hq))) (fun p hp => off q hq p (List.mem_append_right _ hp))
      case s6 =>
        intro b vs h
        rw [List.append_assoc]
        rcases List.mem_append.mp h with h | h
        · exact List.mem_append_left _ h
        · rw [hR4] at h
          refine List.mem_append_right _ ?_
          rcases List.mem_cons.mp h with h | h
          · exact absurd (congrArg Prod.snd h) (by obtain ⟨es, ep, hd, _⟩ := hn4; intro e; simp only at e; rw [← e] at hd; cases hd)
          · rcases List.mem_cons.mp h with h | h
            · exact absurd (congrArg Prod.snd h) (by simp [LCg.lst])
            · rcases List.mem_append.mp h with h | h
              · exact absurd (hzl _ h) (by simp)
              · exact h
      case s7 =>
        intro p hp q hq
        rw [List.append_assoc] at hp
        rcases List.mem_append.mp hp with hp | hp
        · exact O2.off p (List.mem_append_left _ hp) q hq
        · exact O2.off p (inR4 _ (hTB p hp)) q hq
      case s8 =>
        rw [List.take_add_one, hU, List.flatMap_append, List.length_append, List.length_append]
        simp only [Option.toList, List.flatMap_cons, List.flatMap_nil, List.append_nil]
        omega
      case s9 => exact Paired.append hys (.cons ⟨_, rfl⟩ .nil)
      case t1 =>
        rw [List.take_add_one, hU]
        refine Paired.append (Paired.imp (fun _ _ h => by rw [hm2]; exact h.more) hnum) (.cons hnum2 .nil)
      case t2 => exact fapp (fun p hp q hq => hgt2 p hp q (hBR q hq)) hgt
    case ze =>
      rintro Dc ys nw hc tkc drc Fc Nc offc ltc hsub ⟨v', ns', tl, ks, rfl, O', ⟨more, rfl, hml⟩, hys, hnum, hgt, hyl⟩
      have hkk : kws.length = tm.kids.length := Paired.length hks
      rw [List.take_of_length_le (by rw [hkk]; exact Nat.le_refl _)] at hnum hml
      obtain ⟨G5, hG5⟩ : ∃ G5 : Led, G5 = mutL a v' ++ (tl ++ BASE) := ⟨_, rfl⟩
      rw [← hG5] at Nc offc
      have hB5 : ∀ p ∈ BASE, p ∈ G5 := by rw [hG5]; exact fun p hp => List.mem_append_right _ ((List.mem_append_right _ hp))
      have hcB5 := hB5 _ hcB
      have v1b := hB5 _ VB.H
      have v2b := hB5 _ VB.Hd
      have hys2 : ys.length ≤ 1000 := by omega
      ((try k_fold); k_steps)
      rename_i D6 z6 F6 N6 k6
      show wpAny _ _ (call (Value.ref 327) [Value.ref a.H, Value.str tm.op t, Value.ref D6]) _ _ _
      have hkind : ∀ q ∈ mutL a v', q.2.cls ≠ .type "tuple" := O'.kinds
      have offD6 : ∀ q ∈ mutL a v', D6 ≠ q.1 := fun q hq => News_ne N6 (p := (D6, tupO ys)) (q := q) (.head _) (by rw [hG5]; exact .tail _ (.tail _ (List.mem_append_left _ hq))) (Ne.symm (hkind q hq))
      have offR6 : ∀ p ∈ (D6, tupO ys) :: (tl ++ BASE), ∀ q ∈ mutL a v', p.1 ≠ q.1 := fcons offD6 O'.off
      have hys3 : ys.length ≤ 2 := by omega
      have hlowk : ∀ k ∈ ks, k < (ns ++ more).length := fun k hk => by
        obtain ⟨j, hj⟩ := List.mem_iff_getElem?.mp hk
        obtain ⟨U, _, hU⟩ := Paired.get hnum hj
        exact hU.lt
      have hsl := tm.subs_le
      have C := add_spec (t := t) (x := tm.op) (T := tk) (VB.mono fun p hp => .tail _ (List.mem_append_right _ hp)) (O'.to (fun _ _ h => .tail _ h) offR6) (.head _) hys hys3 (by rw [List.length_append]; omega) (hO tm (by cases tm <;> exact .head _)) hlowk
      have N7 := News_sub (news' := mutL a v' ++ ((D6, tupO ys) :: (tl ++ BASE))) N6 (by rw [hG5]; (k_extra "sub9"))
      clear N6
      (k_here; (with_reducible show wpAny _ _ (call (Value.ref 327) _) _ _ _); k_dflt (refine' Fn.useK ?kC ?kB ?kF ?kX ?kN ?kT ?kk ?kd ?ku ?_; (case kB => k_asm); (case kF => k_asm); (case kX => k_asm); (case kN => k_asm); (case kT => k_asm); (case kk => first | exact rfl | assumption); (case kC => exact C); (case kd => ktr_room); (case ku => ktr_units)); (intro KQ9 hKQ9 r9 news9 h9 tk9 dr9 F9 N9 P9); (obtain ⟨v2, ns2, tl2, i2, ti2, e1, O2, ⟨more2, hm2, hml2⟩, e2, hi2, hgt2⟩ := P9); (replace e1 := Eq.symm e1); (subst e1); (try subst e2); (refine hKQ9 _ _ _ _ ?_); (clear hKQ9 KQ9); (try dsimp only))
      ((try k_fold); k_steps)
      have hfin : ∀ p ∈ (tl2 ++ (tl ++ [(D1, tupO kws)])) ++ rest, p ∈ tl2 ++ ((D6, tupO ys) :: (tl ++ BASE)) := by rw [hB]; (k_extra "sub9")
      refine hret _ (mutL a v2 ++ ((tl2 ++ (tl ++ [(D1, tupO kws)])) ++ rest)) _ _ _ (by assumption) (News_sub (by assumption) (fapp (fun p hp => List.mem_append_left _ hp) (fun p hp => List.mem_append_right _ ((hfin p hp)))))
        ⟨v2, ns2, tl2 ++ (tl ++ [(D1, tupO kws)]), i2, _, rfl, O2.to2 ?u1 (fun p hp q hq => O2.off p (hfin p hp) q hq), ⟨more ++ more2, by rw [hm2, List.append_assoc], by rw [List.length_append]; omega⟩, rfl, Num.mk hi2 (Paired.imp (fun _ _ h => by rw [hm2]; exact h.more) hnum), ?u2⟩
      case u1 =>
        intro b x tx vs h
        rcases List.mem_append.mp h with h | h
        · exact List.mem_append_left _ ((List.mem_append_left _ h))
        · rcases List.mem_cons.mp h with h | h
          · have e : ys = Value.str x tx :: vs := by
              have := congrArg (fun p : Addr × Obj => p.2.data) h
              simp at this
              exact this.symm
            rw [e] at hys
            cases hys with | cons h1 _ => obtain ⟨_, h1⟩ := h1; cases h1
          · rcases List.mem_append.mp h with h | h
            · exact List.mem_append_left _ ((List.mem_append_right _ ((List.mem_append_left _ h))))
            · rw [hB] at h
              rcases List.mem_cons.mp h with h | h
              · rw [h]; exact List.mem_append_left _ ((List.mem_append_right _ ((List.mem_append_right _ ((.head _))))))
              · rcases List.mem_cons.mp h with h | h
                · exact absurd (congrArg (fun p : Addr × Obj => p.2.data) h) (by simp [dkc])
                · exact List.mem_append_right _ h
      case u2 =>
        exact fapp (fun p hp q hq => hgt2 p hp q (List.mem_append_right _ ((.tail _ (List.mem_append_right _ ((hBr q hq))))))) (fapp (fun p hp q hq => hgt p hp q (hBr q hq)) (fcons (fun q hq => hD1m q (.tail _ (List.mem_append_right _ hq))) (fun _ h => nomatch h)))
  intro T
  have all : ∀ n, ∀ T : Tm, T.sz < n → ∀ (u : Value) (n₀ : Led), Rel n₀ u T → (∀ U ∈ T.subs, U.op ∈ OPS) → PutC w a tk n₀ T u := by
    intro n
    induction n with
    | zero => intro T h; exact absurd h (Nat.not_lt_zero _)
    | succ n ih => exact fun T h => main T fun T' h' => ih T' (by omega)
  exact all _ T (Nat.lt_succ_self _)

end

section
set_option maxHeartbeats 4000000
noncomputable def fixL (w : World) (a : HP) (t : HT) : Led := [(a.H, W.instObj 424 a.Hd), (a.Hd, heapD w t.tH a.B a.U a.ed a.fo a.kn a.av a.wt t.t0 t.nH), (a.B, W.instObj 186 a.Bd), (a.Bd, bankD w t.tB a.nl a.nd a.wl a.dl t.nB), (a.U, W.instObj 292 a.Ud), (a.Ud, unionsD w t.tU a.ab a.lt a.mg t.nU), (a.mg, W.listOf #[] 0), (a.ed, W.listOf #[] 0), (a.fo, W.listOf #[] 0), (a.wt, W.listOf #[] 0)]
inductive Lett (h₀ h : Heap) (L : Addr) (l : Led) : Prop
  | mk (Z : Led) (e : Z = l) (N : News h₀ L h Z) : Lett h₀ h L l
theorem News_letter {h₀ h : Heap} {L : Addr} {l : Led} (N : News h₀ L h l) : Lett h₀ h L l := ⟨l, rfl, N⟩
theorem pwc {a b : Nat} {l : List Nat} (h : a < b) (t : (b :: l).Pairwise (· < ·)) : (a :: b :: l).Pairwise (· < ·) :=
  List.pairwise_cons.mpr ⟨fcons h (fun x hx => Nat.lt_trans h ((List.pairwise_cons.mp t).1 x hx)), t⟩
noncomputable def at9 (S : List Nat) (i : Nat) : Nat := S.getD i 0
theorem at9_lt {S : List Nat} (hS : S.Pairwise (· < ·)) {i j : Nat} (h : i < j) (hj : j < S.length) : at9 S i < at9 S j := by
  have := List.pairwise_iff_getElem.mp hS i j (Nat.lt_trans h hj) hj h
  simpa [at9, List.getD_eq_getElem?_getD, Nat.lt_trans h hj, hj] using this
theorem sep9 {S : List Nat} (hS : S.Pairwise (· < ·)) {n : Nat} (hn : S.length = n) {is js : List Nat} (h : ∀ i ∈ is, i < n ∧ ∀ j ∈ js, j < n ∧ i ≠ j) : ∀ x ∈ is.map (at9 S), ∀ y ∈ js.map (at9 S), x ≠ y := by
  intro x hx y hy
  obtain ⟨i, hi, rfl⟩ := List.mem_map.mp hx
  obtain ⟨j, hj, rfl⟩ := List.mem_map.mp hy
  obtain ⟨a, b⟩ := h i hi
  obtain ⟨b, c⟩ := b j hj
  rcases Nat.lt_or_gt_of_ne c with c | c
  · exact Nat.ne_of_lt (at9_lt hS c (hn ▸ b))
  · exact Nat.ne_of_gt (at9_lt hS c (hn ▸ a))
theorem nodup9 {S : List Nat} (hS : S.Pairwise (· < ·)) {n : Nat} (hn : S.length = n) {js : List Nat} (h : js.Pairwise fun i j => i < j ∧ j < n) : (js.map (at9 S)).Nodup :=
  List.Pairwise.map _ (fun i j h => Nat.ne_of_lt (at9_lt hS h.1 (hn ▸ h.2))) h
theorem lo9 {S : List Nat} (hS : S.Pairwise (· < ·)) {n : Nat} (hn : S.length = n) {js : List Nat} (h : ∀ j ∈ js, j < n) : ∀ y ∈ js.map (at9 S), at9 S 0 ≤ y := by
  intro y hy
  obtain ⟨j, hj, rfl⟩ := List.mem_map.mp hy
  rcases Nat.eq_zero_or_pos j with e | e
  · rw [e]; exact Nat.le_refl _
  · exact Nat.le_of_lt (at9_lt hS e (hn ▸ h j hj))
theorem heap_make (w : World) (news : Led) : Fn w 424 30 [] news (fun news' r => Ex3 fun (a : HP) (T : HT) (v : HV) => And5 (news' = mutL a v ++ (fixL w a T ++ news)) (r = .ref a.H) (HFix w a T (fixL w a T ++ news)) (HOk w a v [] (fixL w a T ++ news)) (∀ p ∈ fixL w a T, ∀ q ∈ news, @LT.lt Nat _ q.1 p.1)) := by
  (w_top off; unfold Fn; intro loose mean mg mb dp un gd cn cs a9 ccd cl outer A₀ base h₀ L m s Q E B F X N T hk hdp hun hret; (have kf : KF (rgTop.heap_1 w.params) PySem.Challenge.rw_rg0118_01 := (by k_fill; trivial)); clear kf; k_dflt (refine' call_cls ?k1 ?k2 ?k3 ?k4 ?k5 ?k6 ?_; (case k1 => k_asm); (case k2 => k_asm); (case k3 => k_asm); (case k4 => k_is); (case k5 => k_is); (case k6 => k_is); k_whole; intro x' d' h' F' N' l1 l2; (try k_lt l1); (try k_lt2 l2); ktr_enter))
  ((try k_fold); k_steps)
  rename_i Bd B nl nd wl dl oN tB nB hN tlo b1 b2 b3 b4 b5 bF bF2 bF3 bF4 bF5 bF6 g1 g2 _ _ _ _ g3 g4 g5 Ud U ab lt mg tU nU u1 u2 u3 u4 uF uF2 uF3 uF4 uF5 g6 g7 _ _ ed g8 edF g9 g10 _ _ fo g11 foF g12 g13 _ _ kn g14 oK klo hs q1 q2 q3 knF q4 q4b _ _ av q5 oA alo q6 q7 hi q8 avF q9 q9b _ _ wt q10 wtF q11 q11b q12 q13 q14 kF kN q15 kX
  have hS : List.Pairwise (· < ·) [d', x', Bd, B, nl, nd, wl, dl, Ud, U, ab, lt, mg, ed, fo, kn, av, wt] :=
    pwc (by omega) (pwc (by omega) (pwc (by omega) (pwc (by omega) (pwc (by omega) (pwc (by omega) (pwc (by omega) (pwc (by omega) (pwc (by omega) (pwc (by omega) (pwc (by omega) (pwc (by omega) (pwc (by omega) (pwc (by omega) (pwc (by omega) (pwc (by omega) (pwc (by omega) (List.pairwise_singleton _ _)))))))))))))))))
  obtain ⟨T0, hT0⟩ : Ex1 fun (T0 : HT) => News h₀ L q12 (mutL (⟨x', d', B, Bd, U, Ud, nl, nd, wl, dl, ab, lt, mg, ed, fo, kn, av, wt⟩ : HP) ⟨[], [], [], [], [], oN, oK, oA, 0, 0, 0, 0, 0, []⟩ ++ (fixL w ⟨x', d', B, Bd, U, Ud, nl, nd, wl, dl, ab, lt, mg, ed, fo, kn, av, wt⟩ T0 ++ news)) := by
    refine ⟨{ tH := tk8 ?a ?b ?c ?d ?e ?f ?g ?h, tB := tB, tU := tU, t0 := ?t, nH := ?n, nB := nB, nU := nU }, News_sub kN ?_⟩
    rotate_left 10
    simp only [mutL, fixL, List.cons_append, List.nil_append]
    (k_extra "sub9")
  clear kN
  refine hret _ _ _ _ _ kF hT0 ⟨_, T0, _, rfl, rfl, ?_, ?_, ?_⟩
  · constructor <;> first | k_mem | simp only [fixL, List.cons_append, List.mem_cons, true_or, or_true]
  · have num : ∀ (o : Obj) (r : Led), o.IsDictOf (PySem.strKind PySem.Challenge.rw_rg0118_01.row.prog w) [] → NumDict w o r [] := fun o r h => ⟨[], NdDict.nil h, rfl, fun _ h => (List.not_mem_nil h).elim, fun i x h => by simp at h⟩
    refine ⟨⟨.nil, num _ _ hN, rfl, fun _ h => (List.not_mem_nil h).elim, rfl, fun _ h => (List.not_mem_nil h).elim, List.nodup_nil⟩, ⟨rfl, fun i v h => by simp at h⟩, rfl, num _ _ hs, ⟨[], hi, Nat.le_refl _, fun c h => absurd h (Nat.not_lt_zero _)⟩, fun _ h => (List.not_mem_nil h).elim, fun i n h => by simp at h, ?_, ?_, tlo, klo, alo⟩
    · exact nodup9 (n := 18) hS rfl (js := [4, 5, 6, 7, 10, 11, 15, 16]) (by decide)
    · intro p hp q hq
      rcases List.mem_append.mp hp with hp | hp
      · exact sep9 (n := 18) hS rfl (is := [1, 0, 3, 2, 9, 8, 12, 13, 14, 17]) (js := [4, 5, 6, 7, 10, 11, 15, 16]) (by decide) p.1 (List.mem_map_of_mem hp) q.1 (List.mem_map_of_mem hq)
      · exact Nat.ne_of_lt (Nat.lt_of_lt_of_le (l1 p hp) (lo9 (n := 18) hS rfl (js := [4, 5, 6, 7, 10, 11, 15, 16]) (by decide) q.1 (List.mem_map_of_mem hq)))
  · intro p hp q hq
    exact Nat.lt_of_lt_of_le (l1 q hq) (lo9 (n := 18) hS rfl (js := [1, 0, 3, 2, 9, 8, 12, 13, 14, 17]) (by decide) p.1 (List.mem_map_of_mem hp))

end

section
set_option maxHeartbeats 4000000
noncomputable def SidesPost (w : World) (a : HP) (v : HV) (ns : List Nd) (rest : Led) (A B : Tm) (news' : Led) (r : Value) : Prop :=
  Ex8 fun (v' : HV) (ns' : List Nd) (tl : Led) (D : Addr) (i : Nat) (j : Nat) (ti : Tok) (tj : Tok) => And8 (news' = mutL a v' ++ (tl ++ rest)) (r = .ref D) ((D, tupO [.int (i : Int) ti, .int (j : Int) tj]) ∈ tl) (HOk w a v' ns' (tl ++ rest)) (∃ more, ns' = ns ++ more ∧ more.length ≤ 8) (Num ns' A i) (Num ns' B j) (∀ p ∈ tl, ∀ q ∈ rest, @LT.lt Nat _ q.1 p.1)
theorem ln_HO_48 : True := by
  k_with "call ref" => ((with_reducible show wpAny _ _ (call (Value.ref 332) _) _ _ _); refine of_hold ?_)
  k_with "call ref" => ((with_reducible show wpAny _ _ (call (Value.ref 200) _) _ _ _); refine of_hold ?_)
  exact True.intro
theorem sides_spec {w : World} {a : HP} {hT : HT} {v : HV} {ns : List Nd} {rest : Led} {ov e : Addr} {vp v1 v2 : Value} {T0 T1 T2 : Tm} (V : HFix w a hT rest) (O : HOk w a v ns rest) (hov : (ov, tupO [.ref e, vp, v1, v2]) ∈ rest) (R0 : Rel rest vp T0) (R1 : Rel rest v1 T1) (R2 : Rel rest v2 T2)
    (s0 : T0.short) (s1 : T1.short) (s2 : T2.short) (hl : (T0.subs.filter Tm.isVar).length ≤ 2) (hK : ∀ n, n ≤ 20 → LF n ∈ ([T0, T1, T2].flatMap Tm.subs).map Tm.op → n ≤ 2)
    (z1 : (T1.fill (sig T0 T1 T2)).subs.length ≤ 4) (z2 : (T2.fill (sig T0 T1 T2)).subs.length ≤ 4) (hO1 : ∀ U ∈ (T1.fill (sig T0 T1 T2)).subs, U.op ∈ OPS) (hO2 : ∀ U ∈ (T2.fill (sig T0 T1 T2)).subs, U.op ∈ OPS) (hn : ns.length + 8 ≤ 20) :
    Fn w 207 130 [.ref a.H, .ref ov] (mutL a v ++ rest) (SidesPost w a v ns rest (T1.fill (sig T0 T1 T2)) (T2.fill (sig T0 T1 T2))) := by
  have m1 := V.H
  have m2 := V.Hd
  have hkind := O.kinds
  have up : ∀ p ∈ rest, p ∈ mutL a v ++ rest := fun p hp => List.mem_append_right _ hp
  have G := grounded_spec w ov e vp v1 v2 T0 T1 T2 (mutL a v ++ rest) (up _ hov) (R0.mono up) (R1.mono up) (R2.mono up) s0 s1 s2 hl hK
  clear R0 R1 R2 s0 s1 s2 hl hK up
  have y1 := (T1.fill (sig T0 T1 T2)).sz_le
  have y2 := (T2.fill (sig T0 T1 T2)).sz_le
  generalize T1.fill (sig T0 T1 T2) = A at *
  generalize T2.fill (sig T0 T1 T2) = BB at *
  generalize hM : mutL a v = M at *
  (w_top off; unfold Fn; intro loose mean mg mb dp un gd cn cs a9 ccd cl outer A₀ base h₀ L m s Q E B F X N T hk hdp hun hret; (have kf : KF (rgTop.heap_1 w.params) PySem.Challenge.rw_rg0118_01 := (by k_fill; trivial)); clear kf; refine wpAny_call ?_; k_dflt ktr_enter)
  ((try k_fold); k_steps)
  show wpAny _ _ (call (Value.ref 200) _) _ _ _
  (k_here; (with_reducible show wpAny _ _ (call (Value.ref 200) _) _ _ _); k_dflt (refine' Fn.useK ?kC ?kB ?kF ?kX ?kN ?kT ?kk ?kd ?ku ?_; (case kB => k_asm); (case kF => k_asm); (case kX => k_asm); (case kN => k_asm); (case kT => k_asm); (case kk => first | exact rfl | assumption); (case kC => exact G); (case kd => ktr_room); (case ku => ktr_units)); (intro KQ9 hKQ9 r9 news9 h9 tk9 dr9 F9 N9 P9); (obtain ⟨tl, D, r1, r2, e1, e2, Q1, Q2, hgt, hD⟩ := P9); (replace e1 := Eq.symm e1); (subst e1); (try subst e2); (refine hKQ9 _ _ _ _ ?_); (clear hKQ9 KQ9); (try dsimp only))
  ((try k_fold); k_steps)
  rename_i h1 h2 h3 F1 N1 _ _
  show wpAny _ _ (call (Value.ref 332) _) _ _ _
  subst hM
  have toR : ∀ b vs, (b, tupO vs) ∈ tl ++ (mutL a v ++ rest) → (b, tupO vs) ∈ tl ++ rest := fun b vs h => by
    rcases List.mem_append.mp h with h | h
    · exact List.mem_append_left _ h
    · rcases List.mem_append.mp h with h | h
      · exact absurd rfl (hkind _ h)
      · exact List.mem_append_right _ h
  have Q1 := Q1.monoT toR
  have Q2 := Q2.monoT toR
  clear toR
  obtain ⟨R, hR⟩ : ∃ R : Led, R = (D, tupO [r1, r2]) :: (tl ++ rest) := ⟨_, rfl⟩
  have inR : ∀ p ∈ tl ++ rest, p ∈ R := by rw [hR]; exact fun p hp => .tail _ hp
  have inr : ∀ p ∈ rest, p ∈ R := fun p hp => inR p (List.mem_append_right _ hp)
  have offR : ∀ p ∈ R, ∀ q ∈ mutL a v, p.1 ≠ q.1 := by
    rw [hR]
    exact fcons (fun q hq => Nat.ne_of_gt (hD q (List.mem_append_right _ ((List.mem_append_left _ hq))))) (fapp (fun p hp q hq => Nat.ne_of_gt (hgt p hp q (List.mem_append_left _ hq))) O.off)
  have N2 := News_sub (news' := mutL a v ++ R) N1 (by rw [hR]; (k_extra "sub9"))
  clear N1
  have P1 := put_spec w a hT A r1 (tl ++ rest) Q1 hO1 v ns R (V.mono inr) (O.to (fun _ _ h => inr _ h) offR) inR (by omega)
  have m1 := inr _ m1
  have m2 := inr _ m2
  (k_here; (with_reducible show wpAny _ _ (call (Value.ref 332) _) _ _ _); k_dflt (refine' Fn.useK ?kC ?kB ?kF ?kX ?kN ?kT ?kk ?kd ?ku ?_; (case kB => k_asm); (case kF => k_asm); (case kX => k_asm); (case kN => k_asm); (case kT => k_asm); (case kk => first | exact rfl | assumption); (case kC => exact P1); (case kd => ktr_room); (case ku => ktr_units)); (intro KQ9 hKQ9 r9 news9 h9 tk9 dr9 F9 N9 P9); (obtain ⟨v2, ns2, tl2, i2, ti2, e1, O2, ⟨more2, hm2, hml2⟩, e2, hnum2, hgt2⟩ := P9); (replace e1 := Eq.symm e1); (subst e1); (try subst e2); (refine hKQ9 _ _ _ _ ?_); (clear hKQ9 KQ9); (try dsimp only))
  clear P1 offR N2
  obtain ⟨G, hG, N9⟩ := News_letter N9
  have m1 : (a.H, W.instObj 424 a.Hd) ∈ G := by rw [hG]; exact List.mem_append_right _ ((List.mem_append_right _ m1))
  have m2 : (a.Hd, heapD w hT.tH a.B a.U a.ed a.fo a.kn a.av a.wt hT.t0 hT.nH) ∈ G := by rw [hG]; exact List.mem_append_right _ ((List.mem_append_right _ m2))
  ((try k_fold); k_steps)
  show wpAny _ _ (call (Value.ref 332) _) _ _ _
  subst hG
  have P2 := put_spec w a hT BB r2 (tl ++ rest) Q2 hO2 v2 ns2 (tl2 ++ R) (V.mono fun p hp => List.mem_append_right _ ((inr p hp))) O2 (fun p hp => List.mem_append_right _ ((inR p hp))) (by rw [hm2, List.length_append]; omega)
  (k_here; (with_reducible show wpAny _ _ (call (Value.ref 332) _) _ _ _); k_dflt (refine' Fn.useK ?kC ?kB ?kF ?kX ?kN ?kT ?kk ?kd ?ku ?_; (case kB => k_asm); (case kF => k_asm); (case kX => k_asm); (case kN => k_asm); (case kT => k_asm); (case kk => first | exact rfl | assumption); (case kC => exact P2); (case kd => ktr_room); (case ku => ktr_units)); (intro KQ9 hKQ9 r9 news9 h9 tk9 dr9 F9 N9 P9); (obtain ⟨v3, ns3, tl3, i3, ti3, e1, O3, ⟨more3, hm3, hml3⟩, e2, hnum3, hgt3⟩ := P9); (replace e1 := Eq.symm e1); (subst e1); (try subst e2); (refine hKQ9 _ _ _ _ ?_); (clear hKQ9 KQ9); (try dsimp only))
  clear P2
  obtain ⟨G, hG, N9⟩ := News_letter N9
  ((try k_fold); k_steps)
  rename_i D9 h8 F8 N8 l8 kF kN kT kX
  clear F8 N8
  subst hG
  have hsub : ∀ p ∈ ((D9, tupO [.int (i2 : Int) ti2, .int (i3 : Int) ti3]) :: (tl3 ++ (tl2 ++ ((D, tupO [r1, r2]) :: tl)))) ++ rest, p ∈ (D9, tupO [.int (i2 : Int) ti2, .int (i3 : Int) ti3]) :: (tl3 ++ (tl2 ++ R)) := by rw [hR]; (k_extra "sub9")
  have off3 : ∀ p ∈ (D9, tupO [.int (i2 : Int) ti2, .int (i3 : Int) ti3]) :: (tl3 ++ (tl2 ++ R)), ∀ q ∈ mutL a v3, p.1 ≠ q.1 := fcons (fun q hq => Nat.ne_of_gt (l8 q (List.mem_append_left _ hq))) O3.off
  refine hret _ (mutL a v3 ++ (((D9, tupO [.int (i2 : Int) ti2, .int (i3 : Int) ti3]) :: (tl3 ++ (tl2 ++ ((D, tupO [r1, r2]) :: tl)))) ++ rest)) _ _ _ kF (News_sub kN ?n1) ⟨v3, ns3, _, D9, i2, i3, ti2, ti3, rfl, rfl, .head _, O3.to ?o1 ?o2, ⟨more2 ++ more3, by rw [hm3, hm2, List.append_assoc], by rw [List.length_append]; omega⟩, by rw [hm3]; exact hnum2.more, hnum3, ?g1⟩
  case n1 =>
    refine fapp (fun p hp => .tail _ (List.mem_append_left _ hp)) (fun p hp => ?_)
    rcases List.mem_cons.mp (hsub p hp) with h | h
    · rw [h]; exact .head _
    · exact .tail _ (List.mem_append_right _ h)
  case o1 =>
    intro b vs h
    rw [hR] at h
    rcases List.mem_append.mp h with h | h
    · exact .tail _ (List.mem_append_left _ ((List.mem_append_left _ h)))
    · rcases List.mem_append.mp h with h | h
      · exact .tail _ (List.mem_append_left _ ((List.mem_append_right _ ((List.mem_append_left _ h)))))
      · rcases List.mem_cons.mp h with h | h
        · rw [h]; exact .tail _ (List.mem_append_left _ ((List.mem_append_right _ ((List.mem_append_right _ ((.head _)))))))
        · rcases List.mem_append.mp h with h | h
          · exact .tail _ (List.mem_append_left _ ((List.mem_append_right _ ((List.mem_append_right _ ((.tail _ h)))))))
          · exact .tail _ (List.mem_append_right _ h)
  case o2 => exact fun p hp q hq => off3 p (hsub p hp) q hq
  case g1 =>
    have up : ∀ q ∈ rest, q ∈ tl2 ++ R := fun q hq => List.mem_append_right _ ((inr q hq))
    have up3 : ∀ q ∈ rest, q ∈ mutL a v3 ++ (tl3 ++ (tl2 ++ R)) := fun q hq => List.mem_append_right _ ((List.mem_append_right _ ((up q hq))))
    exact fcons (fun q hq => l8 q (up3 q hq)) (fapp (fun p hp q hq => hgt3 p hp q (up q hq)) (fapp (fun p hp q hq => hgt2 p hp q (inr q hq)) (fcons (fun q hq => hD q (List.mem_append_right _ ((List.mem_append_right _ hq)))) (fun p hp q hq => hgt p hp q (List.mem_append_right _ hq)))))

end

section
set_option maxHeartbeats 4000000
section
variable {prog : Program} {w : World} {A : Around} {E : Value → Shared → Prop} {s : Shared} {h₀ : Heap} {L : Addr} {m : Str → Option Value} {news : Led}
theorem sorted_dict {K : Type} [DecidableEq K] {knd : PySem.KeyKind prog w K} {d : Addr} {o : Obj} {kvs : List (K × Value)} {Q : Value → Shared → Prop} (Good : Array Value → Prop) (hh : A.handled = none) (F : Fr h₀ L s.heap m) (N : News h₀ L s.heap news) (hm : (d, o) ∈ news) (hd : o.IsDictOf knd kvs) (lo : (d == sysModules) = false) (hb : kvs.length < 64)
    (hsort : ∀ (A' : Around) (vs : List Value) (s' : Shared) (a : Addr) (P : Fin → Shared → Prop), Paired (fun v (p : K × Value) => knd.is p.1 v = true) vs kvs → s'.heap.get? a = some (seqObj "list" vs.toArray 0) → (∀ out, Good out → P (.done (.ret .none)) { s' with heap := sortedHeap s'.heap a vs out }) → wpAny (model prog w) A' (Builtin.«list.sort» ⟨[.ref a], []⟩) P E s')
    (h : ∀ (out : Array Value) h' tk (D : Addr) e, Good out → Fr h₀ L h' m → News h₀ L h' ((D, W.listOf out e) :: news) → (∀ p ∈ news, p.1 < D) → Q (.ref D) { s with heap := h', toks := tk }) :
    wpAny (model prog w) A (call (.builtin "sorted") [.ref d]) Q E s := by
  have hD : s.heap.DictOf knd d kvs := Heap.dictOf_iff.mpr ⟨o, (N _ hm).1, hd⟩
  obtain ⟨ep, hat⟩ := hD.dictAt
  refine kdu_sorted (kdl_dict (knd := knd) (kvs := kvs) (ep := ep) lo) hh F N hat (by rw [sizeLine_eq]; omega) fun B h' tk vs F' N' l1 hl hv => ?_
  have hp : Paired (fun v (p : K × Value) => knd.is p.1 v = true) vs kvs := by
    clear hsort h F' N' hD hat hd hm
    induction kvs generalizing vs with
    | nil => cases vs with
      | nil => exact .nil
      | cons v r => simp at hl
    | cons p r ih => cases vs with
      | nil => simp at hl
      | cons v vs =>
        obtain ⟨k, x, hx, hk⟩ := hv 0 v rfl
        cases hx
        exact .cons hk (ih (by simp at hb ⊢; omega) vs (by simpa using hl) fun j v hj => hv (j + 1) v (by simpa using hj))
  have hB := N' _ (.head _)
  have hoL : h'.get? B = some (seqObj "list" vs.toArray 0) := hB.1
  refine wpAny_call_entry slot_list_sort ⟨_, hoL, rfl⟩ entry_list_sort (hsort _ vs { s with heap := h', toks := tk } B _ hp hoL fun out hg => ⟨_, rfl, ?_⟩) (args_list_sort _)
  obtain ⟨e, he⟩ := sortedHeap_at (out := out) hoL
  have old : ∀ b o, b ≠ B → h'.get? b = some o → (sortedHeap h' B vs out).get? b = some o := fun b o hb e => by
    rw [sortedHeap_old hb (Heap.lt_size e)]; exact e
  refine h out _ tk B e hg (PyProof.Rows.LCg.fr_but F' (fun b o hb e => old b o (by simpa using hb) e) (Ne.symm hB.2.1) hB.2.2) (fun p hp => ?_) l1
  rcases List.mem_cons.mp hp with rfl | hp'
  · exact ⟨he, hB.2⟩
  · exact ⟨old _ _ (Nat.ne_of_lt (l1 p hp')) (N' p (.tail _ hp')).1, (N' p (.tail _ hp')).2⟩
theorem sorted_dict_ints {d : Addr} {o : Obj} {kvs : List (Int × Value)} {Q : Value → Shared → Prop} (hh : A.handled = none) (F : Fr h₀ L s.heap m) (N : News h₀ L s.heap news) (hm : (d, o) ∈ news) (hd : o.IsDictOf (PySem.intKind prog w) kvs) (lo : (d == sysModules) = false) (hb : kvs.length < 64)
    (h : ∀ h' tk D vs ns e, Fr h₀ L h' m → News h₀ L h' ((D, W.listOf vs.toArray e) :: news) → (∀ p ∈ news, p.1 < D) → IntsAre vs ns → ns.Perm (kvs.map (·.1)) → ns.Pairwise (· ≤ ·) → Q (.ref D) { s with heap := h', toks := tk }) :
    wpAny (model prog w) A (call (.builtin "sorted") [.ref d]) Q E s := by
  refine sorted_dict (fun out => Ex1 fun ns => And3 (IntsAre out.toList ns) (ns.Perm (kvs.map (·.1))) (ns.Pairwise (· ≤ ·))) hh F N hm hd lo hb (fun A' vs s' a P hp hoL hP => ?_) fun out h' tk D e ⟨ns, b1, b2, b3⟩ F' N' lt => h h' tk D out.toList ns e F' (by rw [Array.toArray_toList]; exact N') lt b1 b2 b3
  have hI : IntsAre vs (kvs.map (·.1)) := by
    clear hd hb h hP hoL
    induction hp with
    | nil => exact .nil
    | cons h1 _ ih => obtain ⟨t, rfl⟩ := Value.isInt_shape h1; exact .cons _ t ih
  exact list_sort_tree hoL hI (by rw [Paired.length hp]; exact hb) fun out ns' a1 a2 a3 => hP _ ⟨ns', a1, a2, a3⟩
theorem sorted_dict_strs {d : Addr} {o : Obj} {kvs : List (Str × Value)} {Q : Value → Shared → Prop} (hh : A.handled = none) (F : Fr h₀ L s.heap m) (N : News h₀ L s.heap news) (hm : (d, o) ∈ news) (hd : o.IsDictOf (PySem.strKind prog w) kvs) (lo : (d == sysModules) = false) (hb : kvs.length < 64)
    (h : ∀ h' tk D vs ss e, Fr h₀ L h' m → News h₀ L h' ((D, W.listOf vs.toArray e) :: news) → (∀ p ∈ news, p.1 < D) → StrsAre vs ss → ss.Perm (kvs.map (·.1)) → Q (.ref D) { s with heap := h', toks := tk }) :
    wpAny (model prog w) A (call (.builtin "sorted") [.ref d]) Q E s := by
  refine sorted_dict (fun out => ∃ ss, StrsAre out.toList ss ∧ ss.Perm (kvs.map (·.1))) hh F N hm hd lo hb (fun A' vs s' a P hp hoL hP => ?_) fun out h' tk D e ⟨ss, b1, b2⟩ F' N' lt => h h' tk D out.toList ss e F' (by rw [Array.toArray_toList]; exact N') lt b1 b2
  have hS : StrsAre vs (kvs.map (·.1)) := by
    clear hd hb h hP hoL
    induction hp with
    | nil => exact .nil
    | cons h1 _ ih => obtain ⟨t, rfl⟩ := Value.isStrOf_shape h1; exact .cons _ t ih
  refine list_sort_treeK strKind_oneLt hoL hS.keysOf (fun v₁ v₂ rest e => keyKind_strs (by rw [← e]; exact hS)) (by rw [Paired.length hp]; exact hb) fun st' a1 a2 => hP _ ?_
  obtain ⟨ss', b1, b2, b3⟩ := sorted_out_str hS a1 a2
  exact ⟨ss', b1, b2⟩
end

end

section
set_option maxHeartbeats 4000000
theorem ln_JB_49 : True := by
  k_with "subscriptTail" => (k_here; (with_reducible show wpAny _ _ (subscriptTail _ _ (Value.ref _) (Value.int _ _)) _ _ _); k_dflt (refine' list_itemL ?Nq9 ?lq9 ?vq9 ?bq9 ?_ ?sq9; (case Nq9 => k_asm); (case lq9 => k_mem); (case vq9 => assumption); (case bq9 => omega); (case sq9 => with_unfolding_all rfl)))
  exact True.intro
theorem settle_spec {w : World} {a : HP} {tk : HT} {rest : Led} (V : HFix w a tk rest) : Fn w 374 10 [.ref a.H] rest (fun news' r => news' = rest ∧ r = .none) := by
  have m1 := V.H
  have m2 := V.Hd
  have m3 := V.wt
  have hz : ([] : List Value).length ≤ 1000 := Nat.le_of_ble_eq_true rfl
  (w_top off; unfold Fn; intro loose mean mg mb dp un gd cn cs a9 ccd cl outer A₀ base h₀ L m s Q E B F X N T hk hdp hun hret; (have kf : KF (rgTop.heap_1 w.params) PySem.Challenge.rw_rg0118_01 := (by k_fill; trivial)); clear kf; refine wpAny_call ?_; k_dflt ktr_enter)
  ((try k_fold); k_steps)
  refine while_ind (fun n s' => n = 0 ∧ Ex4 fun (hh : Heap) (tk : Nat) (dr : Drawn) (m' : Str → Option Value) => And4 (s' = { s with heap := hh, toks := tk, drawn := dr }) (Fr _ _ hh m') (m' (Str.ofString "self") = some (.ref a.H)) (News _ _ hh rest)) ?_ 0 ⟨rfl, _, _, _, _, rfl, by assumption, rfl, by assumption⟩
  rintro n s' ⟨rfl, hh, tkW, drW, m', rfl, F, e1, N⟩
  ((try k_fold); k_steps)
  exact hret _ _ _ _ _ (by assumption) (by assumption) ⟨rfl, rfl⟩
theorem like_spec {w : World} {a : HP} {tk : HT} {rest : Led} {as : List Value} {ak n i j : Nat} {ti tj : Tok} (V : HFix w a tk rest) (hab : (a.ab, W.listOf as.toArray ak) ∈ rest) (hI : Idx as n) (hi : i < n) (hj : j < n) (hn : n ≤ 30) :
    Fn w 353 20 [.ref a.H, .int (i : Int) ti, .int (j : Int) tj] rest (fun news' r => news' = rest ∧ r = .bool (decide (i = j))) := by
  have m1 := V.H
  have m2 := V.Hd
  have m3 := V.U
  have m4 := V.Ud
  (w_top off; unfold Fn; intro loose mean mg mb dp un gd cn cs a9 ccd cl outer A₀ base h₀ L m s Q E B F X N T hk hdp hun hret; (have kf : KF (rgTop.heap_1 w.params) PySem.Challenge.rw_rg0118_01 := (by k_fill; trivial)); clear kf; refine wpAny_call ?_; k_dflt ktr_enter)
  ((try k_fold); k_steps)
  exact hret _ _ _ _ _ (by assumption) (by assumption) ⟨rfl, congrArg Value.bool (by rw [Bool.eq_iff_iff, beq_iff_eq, decide_eq_true_iff]; omega)⟩
noncomputable def JoinPost (w : World) (a : HP) (v : HV) (ns : List Nd) (rest : Led) (A B : Tm) (news' : Led) (r : Value) : Prop :=
  Ex5 fun (v' : HV) (ns' : List Nd) (tl : Led) (i : Nat) (j : Nat) => And7 (news' = mutL a v' ++ (tl ++ rest)) (r = .bool (decide (i = j))) (HOk w a v' ns' (tl ++ rest)) (∃ more, ns' = ns ++ more ∧ more.length ≤ 8) (Num ns' A i) (Num ns' B j) (∀ p ∈ tl, ∀ q ∈ rest, @LT.lt Nat _ q.1 p.1)
theorem ln_JB_50 : True := by
  k_with "call ref" => ((with_reducible show wpAny _ _ (call (Value.ref 207) _) _ _ _); refine of_hold ?_)
  k_with "call ref" => ((with_reducible show wpAny _ _ (call (Value.ref 374) _) _ _ _); refine of_hold ?_)
  k_with "call ref" => ((with_reducible show wpAny _ _ (call (Value.ref 353) _) _ _ _); refine of_hold ?_)
  exact True.intro
theorem joined_spec {w : World} {a : HP} {hT : HT} {v : HV} {ns : List Nd} {rest : Led} {ov : Addr} {A B : Tm} (V : HFix w a hT rest) (SS : Fn w 207 130 [.ref a.H, .ref ov] (mutL a v ++ rest) (SidesPost w a v ns rest A B)) (hn : ns.length + 8 ≤ 20) :
    Fn w 214 140 [.ref a.H, .ref ov] (mutL a v ++ rest) (JoinPost w a v ns rest A B) := by
  have m1 : (a.H, W.instObj 424 a.Hd) ∈ mutL a v ++ rest := List.mem_append_right _ V.H
  have m2 : (a.Hd, heapD w hT.tH a.B a.U a.ed a.fo a.kn a.av a.wt hT.t0 hT.nH) ∈ mutL a v ++ rest := List.mem_append_right _ V.Hd
  generalize hM : mutL a v ++ rest = M at *
  (w_top off; unfold Fn; intro loose mean mg mb dp un gd cn cs a9 ccd cl outer A₀ base h₀ L m s Q E B F X N T hk hdp hun hret; (have kf : KF (rgTop.heap_1 w.params) PySem.Challenge.rw_rg0118_01 := (by k_fill; trivial)); clear kf; refine wpAny_call ?_; k_dflt ktr_enter)
  ((try k_fold); k_steps)
  show wpAny _ _ (call (Value.ref 207) _) _ _ _
  (k_here; (with_reducible show wpAny _ _ (call (Value.ref 207) _) _ _ _); k_dflt (refine' Fn.useK ?kC ?kB ?kF ?kX ?kN ?kT ?kk ?kd ?ku ?_; (case kB => k_asm); (case kF => k_asm); (case kX => k_asm); (case kN => k_asm); (case kT => k_asm); (case kk => first | exact rfl | assumption); (case kC => exact SS); (case kd => ktr_room); (case ku => ktr_units)); (intro KQ9 hKQ9 r9 news9 h9 tk9 dr9 F9 N9 P9); (obtain ⟨v2, ns2, tl, D, i, j, ti, tj, e1, e2, hD, O2, ⟨more, hm, hml⟩, hi, hj, hgt⟩ := P9); (replace e1 := Eq.symm e1); (subst e1); (try subst e2); (refine hKQ9 _ _ _ _ ?_); (clear hKQ9 KQ9); (try dsimp only))
  obtain ⟨G, hG, N9⟩ := News_letter N9
  have V2 : HFix w a hT G := V.mono (by rw [hG]; exact fun p hp => List.mem_append_right _ ((List.mem_append_right _ hp)))
  have hD : (D, tupO [.int (i : Int) ti, .int (j : Int) tj]) ∈ G := by rw [hG]; exact List.mem_append_right _ ((List.mem_append_left _ hD))
  have m1 := V2.H
  have m2 := V2.Hd
  have hil := hi.lt
  have hjl := hj.lt
  have hab : (a.ab, W.listOf v2.as.toArray v2.ak) ∈ G := by rw [hG]; exact .tail _ (.tail _ (.tail _ (.tail _ (.head _))))
  clear SS
  ((try k_fold); k_steps)
  show wpAny _ _ (call (Value.ref 374) _) _ _ _
  (k_here; (with_reducible show wpAny _ _ (call (Value.ref 374) _) _ _ _); k_dflt (refine' Fn.useK ?kC ?kB ?kF ?kX ?kN ?kT ?kk ?kd ?ku ?_; (case kB => k_asm); (case kF => k_asm); (case kX => k_asm); (case kN => k_asm); (case kT => k_asm); (case kk => first | exact rfl | assumption); (case kC => exact settle_spec V2); (case kd => ktr_room); (case ku => ktr_units)); (intro KQ9 hKQ9 r9 news9 h9 tk9 dr9 F9 N9 P9); (obtain ⟨e1, e2⟩ := P9); (replace e1 := Eq.symm e1); (subst e1); (try subst e2); (refine hKQ9 _ _ _ _ ?_); (clear hKQ9 KQ9); (try dsimp only))
  ((try k_fold); k_steps)
  show wpAny _ _ (call (Value.ref 353) _) _ _ _
  (k_here; (with_reducible show wpAny _ _ (call (Value.ref 353) _) _ _ _); k_dflt (refine' Fn.useK ?kC ?kB ?kF ?kX ?kN ?kT ?kk ?kd ?ku ?_; (case kB => k_asm); (case kF => k_asm); (case kX => k_asm); (case kN => k_asm); (case kT => k_asm); (case kk => first | exact rfl | assumption); (case kC => exact like_spec V2 hab O2.idx hil hjl (by rw [hm, List.length_append]; omega)); (case kd => ktr_room); (case ku => ktr_units)); (intro KQ9 hKQ9 r9 news9 h9 tk9 dr9 F9 N9 P9); (obtain ⟨e1, e2⟩ := P9); (replace e1 := Eq.symm e1); (subst e1); (try subst e2); (refine hKQ9 _ _ _ _ ?_); (clear hKQ9 KQ9); (try dsimp only))
  ((try k_fold); k_steps)
  exact hret _ _ _ _ _ (by assumption) (by assumption) ⟨v2, ns2, tl, i, j, hG, rfl, O2, ⟨more, hm, hml⟩, hi, hj, hgt⟩

end

section
set_option maxHeartbeats 4000000
theorem Num.open {ns : List Nd} {T : Tm} {i : Nat} (h : Num ns T i) : ∃ ks, ns[i]? = some (T.op, ks) ∧ Paired (fun k U => Num ns U k) ks T.kids := by
  cases h with
  | l a => exact ⟨_, a, .nil⟩
  | f a b => exact ⟨_, a, .cons (.l b) .nil⟩
  | gll a b c => exact ⟨_, a, .cons (.l b) (.cons (.l c) .nil)⟩
  | gfl a b c d => exact ⟨_, a, .cons (.f b c) (.cons (.l d) .nil)⟩
  | gff a b c d e => exact ⟨_, a, .cons (.f b c) (.cons (.f d e) .nil)⟩
noncomputable def Closed (ns : List Nd) (S : List Nat) (k : Nat) : Prop := ∀ nd, ns[k]? = some nd → ∀ j ∈ nd.2, j ∈ S
theorem Closed.mono {ns : List Nd} {S S' : List Nat} {k : Nat} (h : Closed ns S k) (hs : ∀ j ∈ S, j ∈ S') : Closed ns S' k := fun nd e j hj => hs j (h nd e j hj)
theorem nodup_le : ∀ (n : Nat) (S : List Nat), S.Nodup → (∀ k ∈ S, k < n) → S.length ≤ n
  | 0, S, _, h => by
    cases S with
    | nil => exact Nat.le_refl _
    | cons x r => exact absurd (h x (.head _)) (Nat.not_lt_zero _)
  | n + 1, S, nd, h => by
    by_cases hm : n ∈ S
    · have h1 := nodup_le n (S.erase n) (nd.erase n) (fun k hk => by
        have := (nd.mem_erase_iff).mp hk
        have := h k this.2
        omega)
      rw [List.length_erase_of_mem hm] at h1
      omega
    · exact Nat.le_succ_of_le (nodup_le n S nd fun k hk => by
        have := h k hk
        have : k ≠ n := fun e => hm (e ▸ hk)
        omega)
theorem Paired.get' {α β : Type} {F : α → β → Prop} : ∀ {l₁ : List α} {l₂ : List β}, Paired F l₁ l₂ → ∀ {i : Nat} {b : β}, l₂[i]? = some b → ∃ a, l₁[i]? = some a ∧ F a b := by
  intro _ _ h
  induction h with
  | nil => intro i b h; exact nomatch h
  | cons h1 _ ih =>
    intro i b h
    cases i with
    | zero => exact ⟨_, rfl, Option.some.inj h ▸ h1⟩
    | succ i => exact ih (i := i) h
theorem nats_snoc {st0 : List Nat} {k : Nat} : ∀ {vs : List Value}, NatsAre vs (st0 ++ [k]) → Ex2 fun vs0 t => And2 (vs = vs0 ++ [.int (k : Int) t]) (NatsAre vs0 st0) := by
  induction st0 with
  | nil =>
    intro vs h
    cases h with | cons h1 h2 => obtain ⟨t, rfl⟩ := h1; cases h2; exact ⟨[], t, rfl, .nil⟩
  | cons x r ih =>
    intro vs h
    cases h with | cons h1 h2 =>
    obtain ⟨vs0, t, rfl, h3⟩ := ih h2
    exact ⟨_ :: vs0, t, rfl, .cons h1 h3⟩
structure Seen (ns : List Nd) (i : Nat) (S st : List Nat) (kvs : List (Int × Value)) : Prop where
  keys : kvs.map (·.1) = S.map fun k : Nat => (k : Int)
  nd : S.Nodup
  good : ∀ k ∈ S, ∃ U, Num ns U k
  sub : ∀ k ∈ st, k ∈ S
  root : i ∈ S
  le : st.length ≤ S.length
theorem Seen.pop {ns : List Nd} {i : Nat} {S st0 : List Nat} {k : Nat} {kvs : List (Int × Value)} (h : Seen ns i S (st0 ++ [k]) kvs) : Seen ns i S st0 kvs :=
  ⟨h.keys, h.nd, h.good, fun c hc => h.sub c (List.mem_append_left _ hc), h.root, by have := h.le; simp at this; omega⟩
theorem Seen.len {ns : List Nd} {i : Nat} {S st : List Nat} {kvs : List (Int × Value)} (h : Seen ns i S st kvs) : S.length ≤ ns.length :=
  nodup_le _ _ h.nd fun k hk => let ⟨_, hU⟩ := h.good k hk; hU.lt
theorem Seen.klen {ns : List Nd} {i : Nat} {S st : List Nat} {kvs : List (Int × Value)} (h : Seen ns i S st kvs) : kvs.length = S.length := by
  have := congrArg List.length h.keys
  simpa using this
theorem Seen.has {ns : List Nd} {i : Nat} {S st : List Nat} {kvs : List (Int × Value)} (h : Seen ns i S st kvs) (c : Nat) : (valueAt kvs (c : Int)).isSome = decide (c ∈ S) := by
  rw [valueAt_isSome, h.keys]
  congr 1
  rw [List.mem_map]
  apply propext
  exact ⟨fun ⟨k, hk, e⟩ => Int.ofNat.inj e ▸ hk, fun hc => ⟨c, hc, rfl⟩⟩
theorem Seen.push {ns : List Nd} {i : Nat} {S st : List Nat} {kvs : List (Int × Value)} (h : Seen ns i S st kvs) {c : Nat} {v : Value} (hc : c ∉ S) (hg : ∃ U, Num ns U c) : Seen ns i (S ++ [c]) (st ++ [c]) (stored kvs (c : Int) v) where
  keys := by
    rw [stored_new, List.map_append, List.map_append, h.keys]; rfl
    rw [h.keys, List.mem_map]
    rintro ⟨k, hk, e⟩
    exact hc (Int.ofNat.inj e ▸ hk)
  nd := List.nodup_append.mpr ⟨h.nd, by simp, fun a ha b hb e => by rw [List.mem_singleton] at hb; exact hc (hb ▸ e ▸ ha)⟩
  good := fun k hk => by
    rcases List.mem_append.mp hk with hk | hk
    · exact h.good k hk
    · rw [List.mem_singleton] at hk; exact hk ▸ hg
  sub := fun k hk => by
    rcases List.mem_append.mp hk with hk | hk
    · exact List.mem_append_left _ ((h.sub k hk))
    · exact List.mem_append_right _ hk
  root := List.mem_append_left _ h.root
  le := by have := h.le; simp; omega
theorem ln_JA_51 : True := by
  k_with "call ref" => ((((k_here; (with_reducible show wpAny _ _ (call (Value.ref 150) [_, _]) _ _ _); k_dflt (refine' Fn.useK ?kCq9 ?kBq9 ?kFq9 ?kXq9 ?kNq9 ?kTq9 ?kkq9 ?kdq9 ?kuq9 ?_; (case kBq9 => k_asm); (case kFq9 => k_asm); (case kXq9 => k_asm); (case kNq9 => k_asm); (case kTq9 => k_asm); (case kkq9 => first | exact rfl | assumption); (case kCq9 => exact (bkids_spec _ _ _ _ _ _ _ _ _ _ _ _ _ _ _ _ _ _ (by k_mem) (by k_mem) (by k_mem) (by omega) (by assumption) (by k_mem) (by omega))); (case kdq9 => ktr_room); (case kuq9 => ktr_units)); (intro KQ9q9 hKQ9q9 _ _ _ _ _ _ _ P9q9); (obtain ⟨_, e1q9, e2q9, l1q9⟩ := P9q9); (replace e1q9 := Eq.symm e1q9); (subst e1q9); (try subst e2q9); (refine hKQ9q9 _ _ _ _ ?_); (clear hKQ9q9 KQ9q9); (try dsimp only)); (try k_lt l1q9))) <;> walk_at "hide9a")
  k_with "eval Dict cons cons" => (((k_here; (with_reducible show wpAny _ _ (eval (PySem.Expr.Dict [some (PySem.Expr.Name _ _)] _ _) _) _ _ _); k_dflt (refine' kdn_eval (knd := PySem.intKind _ _) ?Fq9 ?Nq9 ?bq9 ?aq9 ?lq9 ?eq9 ?nq9 ?_; (case Fq9 => k_asm); (case Nq9 => k_asm); (case bq9 => exact Top.nolimit (by k_asm)); (case aq9 => rfl); (case lq9 => rfl); (case eq9 => exact List.cons_ne_nil _ _); (case nq9 => exact Nat.le_of_ble_eq_true rfl)); (intro _ _ _ _ _ l1q9 _ _); (try k_lt l1q9))) <;> walk_at "hide9a")
  exact True.intro
section
variable {prog : Program} {w : World} {A : Around} {E : Value → Shared → Prop} {s : Shared} {h₀ : Heap} {L : Addr} {m : Str → Option Value} {news news' : Led}
theorem pop_last {D : Addr} {n : Nat} {p : List Value} {y : Value} {Q : Value → Shared → Prop} (F : Fr h₀ L s.heap m) (N : News h₀ L s.heap news) (U : Upd D (W.listOf (p ++ [y]).toArray n) (W.listOf p.toArray (n + 1)) news news')
    (hz : (p ++ [y]).length ≤ 1000) (h : ∀ h', Fr h₀ L h' m → News h₀ L h' news' → Q y { s with heap := h' }) : wpAny (model prog w) A (call (.builtin "list.pop") [.ref D]) Q E s :=
  kl_pop F N (p := p) (y := y) (by simpa using kpa_last y p) U (by simpa using k1000 hz) h
end
theorem ln_JA_52 : True := by
  k_with "call builtin:list.pop" => (((k_here; (with_reducible show wpAny _ _ (call (Value.builtin _) [Value.ref _]) _ _ _); k_dflt (refine' pop_last ?Fq9 ?Nq9 ?Uq9 ?zq9 ?_; (case Fq9 => k_asm); (case Nq9 => k_asm); (case Uq9 => k_upd); (case zq9 => assumption)); (intro _ _ N'q9; (try dsimp only at N'q9)))) <;> walk_at "hide9a")
  exact True.intro
local macro_rules | `(tactic| walk_at "call builtin:sorted") => `(tactic| (refine of_hold ?_))
theorem ln_JA_53 : True := by
  k_with "compareOp NotIn int ref" => (k_here; k_dflt (refine' kdg_notin ?Nq9 ?pq9 ?dq9 ?loq9 (intKind_is _ _ _ _) _ rfl ?_; (case Nq9 => k_asm); (case pq9 => k_mem); (case dq9 => assumption); (case loq9 => assumption)))
  k_with "setItem" => (((k_here; (with_reducible show wpAny _ _ (setItem (Value.ref _) (Value.int _ _) _) _ _ _); k_dflt (refine' kda_set ?Fq9 ?Nq9 ?Uq9 ?dq9 (intKind_is _ _ _ _) ?zq9 ?_; (case Fq9 => k_asm); (case Nq9 => k_asm); (case Uq9 => k_updF); (case dq9 => assumption); (case zq9 => exact k1000 (by assumption))); (intro _ _ _ N'q9 _); (try dsimp only at N'q9))) <;> walk_at "hide9a")
  k_with "getMethod ref" => (k_here; (with_reducible show wpAny _ _ (getMethod (Value.ref _) (Str.ofString "append") _) _ _ _); k_dflt (refine' app_method ?Nq9 ?mq9 ?_; (case Nq9 => k_asm); (case mq9 => k_mem)))
  exact True.intro
theorem nats_of_perm {zs : List Int} {S : List Nat} (h : zs.Perm (S.map fun k : Nat => (k : Int))) : ∃ ks : List Nat, zs = ks.map (fun k : Nat => (k : Int)) ∧ ks.Perm S := by
  refine ⟨zs.map Int.toNat, ?_, ?_⟩
  · rw [List.map_map]
    conv => lhs; rw [← List.map_id zs]
    refine List.map_congr_left fun z hz => ?_
    obtain ⟨k, _, rfl⟩ := List.mem_map.mp (h.mem_iff.mp hz)
    rfl
  · have := h.map Int.toNat
    rw [List.map_map] at this
    have e : S.map (Int.toNat ∘ fun k : Nat => (k : Int)) = S := by
      conv => rhs; rw [← List.map_id S]
      exact List.map_congr_left fun _ _ => rfl
    rwa [e] at this
theorem nats_of_ints : ∀ {vs : List Value} {ks : List Nat}, IntsAre vs (ks.map fun k : Nat => (k : Int)) → NatsAre vs ks
  := by
  intro vs ks h
  induction ks generalizing vs with
  | nil => cases h; exact .nil
  | cons k ks ih => cases h with | cons _ t h => exact .cons ⟨t, rfl⟩ (ih h)
theorem sorted_prefix {kz : List Nat} (h : (kz.map fun k : Nat => (k : Int)).Pairwise (· ≤ ·)) {j k c : Nat} (hk : kz[j]? = some k) (hc : c ∈ kz) (hlt : c < k) : c ∈ kz.take j := by
  obtain ⟨hj, he⟩ := List.getElem?_eq_some_iff.mp hk
  have e := List.take_append_drop j kz
  rw [List.drop_eq_getElem_cons hj, he] at e
  rw [← e, List.map_append, List.map_cons, List.pairwise_append] at h
  rw [← e] at hc
  rcases List.mem_append.mp hc with hc | hc
  · exact hc
  · rcases List.mem_cons.mp hc with hc | hc
    · omega
    · have := (List.pairwise_cons.mp h.2.1).1 (c : Int) (List.mem_map.mpr ⟨c, hc, rfl⟩)
      omega
theorem stored_len {K : Type} [DecidableEq K] {kvs : List (K × Value)} {k : K} {v : Value} {j : Nat} (h : kvs.length ≤ j) : (stored kvs k v).length ≤ j + 1 := by
  unfold stored; split
  · rw [List.length_map]; omega
  · rw [List.length_append]; simp; exact h
noncomputable def MadeOk (ns : List Nd) (kvs : List (Int × Value)) (l : Led) (c : Nat) : Prop := Ex2 fun v U => And3 (valueAt kvs (c : Int) = some v) (Num ns U c) (Rel l v U)
theorem ln_JA_54 : True := by
  k_with "subscriptTail" => (k_here; (with_reducible show wpAny _ _ (subscriptTail _ _ (Value.ref _) (Value.int _ _)) _ _ _); k_dflt (refine' int_itemL ?Nq9 ?dq9 ?Dq9 ?vq9 ?_ ?sq9; (case Nq9 => k_asm); (case dq9 => k_mem); (case Dq9 => assumption); (case vq9 => assumption); (case sq9 => with_unfolding_all rfl)))
  k_with "binaryOp Add ref ref" => (((k_here; k_dflt (first | (refine' add_nil ?Fq9 ?Nq9 ?tq9 ?bq9 ?zq9 ?_; (case Fq9 => k_asm); (case Nq9 => k_asm); (case tq9 => k_mem); (case bq9 => k_mem); (case zq9 => exact Nat.le_of_ble_eq_true rfl)) | (refine' add_new ?Fq9 ?Nq9 ?tq9 ?bq9 ?zq9 ?z2q9 ?_; (case Fq9 => k_asm); (case Nq9 => k_asm); (case tq9 => k_mem); (case bq9 => k_mem); (case zq9 => exact Nat.le_of_ble_eq_true rfl); (case z2q9 => first | assumption | exact Nat.le_of_ble_eq_true rfl); (intro _ _ _ _ l1q9); (try k_lt l1q9))))) <;> walk_at "hide9a")
  exact True.intro
local macro_rules | `(tactic| walk_at "setItem ref int ref") => `(tactic| ((with_reducible show wpAny _ _ (setItem (Value.ref _) (Value.int _ _) (Value.ref _)) _ _ _); refine of_hold ?_))
theorem term_spec {w : World} {rest : Led} {bk Bd nl nd wl dl : Nat} {tB : Nat → Tok} {nB nk : Nat} {nv wv dv : List Value} {no : Obj} {ns : List Nd} {U0 : Tm} {i : Nat} {t : Tok}
    (hB : (bk, W.instObj 186 Bd) ∈ rest) (hBd : (Bd, bankD w tB nl nd wl dl nB) ∈ rest) (hnl : (nl, W.listOf nv.toArray nk) ∈ rest)
    (K : BankOk w rest nv no wv dv ns) (low : ∀ (i : Nat) n, ns[i]? = some n → (∀ k ∈ n.2, k < i) ∧ n.2.length ≤ 2) (hn : ns.length ≤ 20) (hT : Num ns U0 i) :
    Fn w 162 40 [.ref bk, .int (i : Int) t] rest (fun news' r => Ex1 fun tl => And3 (news' = tl ++ rest) (Rel (tl ++ rest) r U0) (∀ p ∈ tl, ∀ q ∈ rest, @LT.lt Nat _ q.1 p.1)) := by
  obtain ⟨nd0, hnd0⟩ : ∃ nd0, ns[i]? = some nd0 := ⟨_, List.getElem?_eq_getElem hT.lt⟩
  (w_top off; unfold Fn; intro loose mean mg mb dp un gd cn cs a9 ccd cl outer A₀ base h₀ L m s Q E B F X N T hk hdp hun hret; (have kf : KF (rgTop.heap_1 w.params) PySem.Challenge.rw_rg0118_01 := (by k_fill; trivial)); clear kf; refine wpAny_call ?_; k_dflt (refine' code_defC ?k1 ?k2 ?k3 ?k4 ?k5 ?kA ?kF ?kK ?k6 ?k7 ?k8 ?k9 ?kB ?kD ?_ ?c2 ?c3 ?c4; (case kA => exact rfl); (case kF => exact rfl); (case kK => assumption); (case k1 => k_asm); (case k2 => k_asm); (case k3 => k_asm); (case k4 => k_asm); (case k5 => k_asm); (case k6 => k_is); (case k7 => k_is); (case k8 => ktr_room); (case k9 => exact BindsTo.of_eq rfl); (case kB => exact rfl); (case kD => decide +kernel); (case c2 => exact rfl); (case c3 => exact rfl); (case c4 => exact rfl); k_whole; intro g' L' h' tk' cells' FG' F' N' Y' B' X' T' l1; (have l1b := tbn_up (ltN (Nat.lt_succ_self L')) (allLt_of l1)); (try simp only [AllLt, and_true] at l1b); (try k_lt l1); k_cells Y'; (try simp only [List.cons_append, List.nil_append] at N'); (try dsimp only); (try k_fold)))
  rename_i okc dkc
  ((try k_fold); k_steps)
  rename_i d1 h1 o0 lo1 hd0 n1 h2 o1 hd1 hf1 ls h3 l3 D1 h7 l4 h4 h5 h6 F1 N1
  clear l4 hf1 hd0
  have N2 := News_sub (news' := (ls, W.listOf #[Value.int (i : Int) t] 0) :: (d1, o1) :: (L' + 1, okc) :: rest) N1 (by (k_extra "sub9"))
  clear N1
  obtain ⟨m1, F1, e1, e2, e3, e4⟩ : Ex1 fun m1 => And5 (Fr _ _ h6 m1) (m1 (Str.ofString "self") = some (.ref bk)) (m1 (Str.ofString "n") = some (.int (i : Int) t)) (m1 (Str.ofString "below") = some (.ref d1)) (m1 (Str.ofString "stack") = some (.ref ls)) := ⟨_, F1, rfl, rfl, rfl, rfl⟩
  refine while_ind (fun n s' => Ex10 fun (S : List Nat) (st : List Nat) (vsS : List Value) (kvsB : List (Int × Value)) (oB : Obj) (nS : Nat) (hh : Heap) (tk : Nat) (dr : Drawn) (m' : Str → Option Value) => And12 (s' = { s with heap := hh, toks := tk, drawn := dr }) (Fr _ _ hh m') (m' (Str.ofString "self") = some (.ref bk)) (m' (Str.ofString "n") = some (.int (i : Int) t)) (m' (Str.ofString "below") = some (.ref d1)) (m' (Str.ofString "stack") = some (.ref ls)) (News _ _ hh ((ls, W.listOf vsS.toArray nS) :: (d1, oB) :: (L' + 1, okc) :: rest)) (oB.IsDictOf (PySem.intKind PySem.Challenge.rw_rg0118_01.row.prog w) kvsB) (Seen ns i S st kvsB) (NatsAre vsS st) (∀ k ∈ S, k ∉ st → Closed ns S k) (n = ns.length + st.length - S.length)) ?_ ns.length
    ⟨[i], [i], [.int (i : Int) t], _, o1, 0, _, _, _, m1, rfl, F1, e1, e2, e3, e4, N2, hd1, ⟨rfl, by simp, fun k hk => by rw [List.mem_singleton] at hk; exact hk ▸ ⟨_, hT⟩, fun k hk => hk, .head _, Nat.le_refl _⟩, .cons ⟨_, rfl⟩ .nil, fun k hk hn => absurd hk hn, by simp⟩
  clear F1 N2 e1 e2 e3 e4 m1 hd1
  rintro n s' ⟨S, st, vsS, kvsB, oB, nS, hh, tkW, drW, m', rfl, F, e1, e2, e3, e4, N, hD, hS, hst, hcl, rfl⟩
  have hSl := hS.len
  have hle := hS.le
  rcases List.eq_nil_or_concat st with rfl | ⟨st0, k, rfl⟩
  · cases hst
    ((try k_fold); k_steps)
    rename_i dm hA om lom q1 q2 him q3 lm hAB okm FM NM hkm _ _
    clear q1 q2 q3
    refine sorted_dict_ints (o := oB) rfl FM NM (by k_mem) hD lo1 (by rw [hS.klen]; omega) fun h' tkS D vs zs e F2 N2 lD hI hP hSort => ?_
    rw [hS.keys] at hP
    obtain ⟨kz, rfl, hPz⟩ := nats_of_perm hP
    clear hP
    have hvz := nats_of_ints hI
    have hvl : vs.length = kz.length := Paired.length hvz
    have hkzl : kz.length = S.length := hPz.length_eq
    have N3 := News_sub (news' := (D, W.listOf vs.toArray e) :: (dm, om) :: (L' + 1, okm) :: rest) N2 (by (k_extra "sub9"))
    have lD2 : d1 < D ∧ dm < D ∧ L' + 1 < D ∧ ∀ p ∈ rest, @LT.lt Nat _ p.1 D := ⟨lD (d1, oB) (by k_mem), lD (dm, om) (.head _), lD (L' + 1, okm) (by k_mem), fun p hp => lD p (by k_mem)⟩
    clear FM NM N2 lD
    ((try k_fold); k_steps)
    rename_i I1 h1 oI1 F1 N1 hI1 l1
    obtain ⟨BASE, hBA⟩ : ∃ BASE : Led, BASE = (L' + 1, okm) :: rest := ⟨_, rfl⟩
    rw [← hBA] at N1
    have hbd : ∀ p ∈ BASE, @LT.lt Nat _ p.1 dm := by rw [hBA]; exact fcons lm.2.2.1 lm.2.2.2.mem
    have hcB : (L' + 1, okm) ∈ BASE := by rw [hBA]; exact .head _
    have hrB : ∀ p ∈ rest, p ∈ BASE := by rw [hBA]; exact fun p hp => .tail _ hp
    have hdmD : @LT.lt Nat _ dm D := lD2.2.1
    have hDI : @LT.lt Nat _ D I1 := l1.1
    clear N3 F2 l1 lD2 lm
    refine loop_ind (fun κ s' => Ex9 fun (j : Nat) (kvsM : List (Int × Value)) (om' : Obj) (oI : Obj) (tl : Led) (hh : Heap) (tk : Nat) (dr : Drawn) (m'' : Str → Option Value) => And12 (κ = vs.length - j) (j ≤ vs.length) (s' = { s with heap := hh, toks := tk, drawn := dr }) (Fr _ _ hh m'') (m'' (Str.ofString "self") = some (.ref bk)) (m'' (Str.ofString "n") = some (.int (i : Int) t)) (News _ _ hh ((I1, oI) :: (D, W.listOf vs.toArray e) :: (dm, om') :: (tl ++ BASE))) (LIt oI D j) (om'.IsDictOf (PySem.intKind PySem.Challenge.rw_rg0118_01.row.prog w) kvsM) (kvsM.length ≤ j) (∀ c ∈ kz.take j, MadeOk ns kvsM (tl ++ BASE) c) (∀ p ∈ tl, @LT.lt Nat _ I1 p.1)) ?_ vs.length _
      ⟨0, [], om, oI1, [], h1, _, _, m', rfl, Nat.zero_le _, rfl, F1, e1, e2, N1, hI1, him, Nat.le_refl _, fun c hc => by simp at hc, fun _ h => nomatch h⟩
    clear F1 N1 hI1 him F e1 e2 e3 e4 N hD
    rintro κ s' ⟨j, kvsM, om', oI, tl, hh, tkL, dr, m'', rfl, hj, rfl, F, e1, e2, N, hI, hD, hkl, hmade, htl⟩ ih
    have htd : ∀ p ∈ tl ++ BASE, p.1 ≠ dm := fapp (fun p hp => Nat.ne_of_gt (Nat.lt_trans (Nat.lt_trans hdmD hDI) (htl p hp))) (fun p hp => Nat.ne_of_lt (hbd p hp))
    have hoffI : ∀ p ∈ (D, W.listOf vs.toArray e) :: (dm, om') :: (tl ++ BASE), p.1 ≠ I1 := fcons (Nat.ne_of_lt hDI) (fcons (Nat.ne_of_lt (Nat.lt_trans hdmD hDI)) (fapp (fun p hp => Nat.ne_of_gt (htl p hp)) (fun p hp => Nat.ne_of_lt (Nat.lt_trans (hbd p hp) (Nat.lt_trans hdmD hDI)))))
    cases hv : vs[j]? with
    | some v =>
      obtain ⟨k, hk, t1, rfl⟩ := Paired.get hvz hv
      have hkS : k ∈ S := hPz.mem_iff.mp (List.mem_of_getElem? hk)
      obtain ⟨U1, hU1⟩ := hS.good k hkS
      obtain ⟨ks, hnd, hkU⟩ := hU1.open
      have hks2 := low _ _ hnd
      obtain ⟨_, hnv, ad, rfl, tx, kvs, had, hks⟩ := Paired.get' K.nodes hnd
      have hkn := hU1.lt
      dsimp only at had hks hks2
      have hkvl : kvs.length < 1000 := by have := Paired.length hks; omega
      have hkids : ∀ c ∈ ks, MadeOk ns kvsM (tl ++ BASE) c := fun c hc => hmade c (sorted_prefix hSort hk (hPz.mem_iff.mpr (hcl k hkS (fun h => nomatch h) _ hnd c hc)) (hks2.1 c hc))
      obtain ⟨TB, hTB⟩ : ∃ TB : Led, TB = tl ++ BASE := ⟨_, rfl⟩
      have hBT : ∀ p ∈ BASE, p ∈ TB := by rw [hTB]; exact fun p hp => List.mem_append_right _ hp
      have mB := hBT _ (hrB _ hB)
      have mBd := hBT _ (hrB _ hBd)
      have mnl := hBT _ (hrB _ hnl)
      have mad := hBT _ (hrB _ had)
      have mc := hBT _ hcB
      rw [← hTB] at N htd hoffI hkids
      (k_dflt (refine' list_turn (g := fun o => (I1, o) :: (D, W.listOf vs.toArray e) :: (dm, om') :: TB) ?F ?N ?U ?hI ?ht ?hx ?_))
      case F => assumption
      case N => assumption
      case U => exact UpdF.head hoffI
      case hI => assumption
      case ht => k_mem
      case hx => simpa using hv
      intro h' oI' F' N' hI'
      clear N F hI
      (try dsimp only at N')
      ((try k_fold); k_steps)
      rename_i hA _ _ _ _ h9a tk9a dr9a D1 hB2 F9a N9a l9a _ _ h9 tk9 dr9 F9 D9 N9 l9
      clear F9a N9a
      obtain ⟨G, hG, N9⟩ := News_letter N9
      have mG : ∀ p ∈ TB, p ∈ G := by rw [hG]; (k_extra "sub9")
      have mdm : (dm, om') ∈ G := by rw [hG]; k_mem
      have mcG := mG _ mc
      refine ⟨D9, kvs, G, fun j ys nw => nw = G ∧ Paired (fun v (c : Nat) => ∃ U, Num ns U c ∧ Rel TB v U) ys (ks.take j) ∧ ys.length = j, rfl, F9, N9, by rw [hG]; exact .head _, by omega, ⟨rfl, .nil, rfl⟩, ?yb, ?yt, ?ye⟩
      case yb => (rintro j ys nw ⟨_, _, h⟩; omega)
      case yt =>
        rintro jj v1 ys nw oI2 I2 C D' hh' tk' dr' mC E' hj2 ⟨rfl, hys, hyl⟩ hsub V off hit
        obtain ⟨c, hc, t2, rfl⟩ := Paired.get hks hj2
        obtain ⟨vc, Uc, hvc, hUc, hRc⟩ := hkids c (List.mem_of_getElem? hc)
        refine cv_one V rfl rfl rfl fun h4 tk4 V4 => ?_
        obtain ⟨oC, hn4, N4⟩ := V4.led
        have F4 := V4.F
        ((try k_fold); k_steps)
        refine ⟨_, _, _, _, _, rfl, V4, fun _ h => h, off, rfl, ?_, by simp [hyl]⟩
        rw [List.take_add_one, hc]; exact Paired.append hys (.cons ⟨Uc, hUc, hRc⟩ .nil)
      case ye =>
        rintro Dc ys nw hc tkc drc Fc Nc offc ltc hsub ⟨rfl, hys, hyl⟩
        rw [hG] at Nc
        have hyl2 : ys.length ≤ 1000 := by omega
        have hkk : kvs.length = ks.length := Paired.length hks
        rw [hkk, List.take_of_length_le (Nat.le_refl _)] at hys
        have hk1000 : kvsM.length ≤ 1000 := by have := (List.getElem?_eq_some_iff.mp hv).1; omega
        clear offc hsub
        have hil := (List.getElem?_eq_some_iff.mp hv).1
        have mkOk : ∀ (X : Addr) (tl2 : Led), (∀ p ∈ TB, p ∈ tl2) → (X, tupO (.str U1.op tx :: ys)) ∈ tl2 → ∀ c ∈ kz.take (j + 1), MadeOk ns (stored kvsM (k : Int) (.ref X)) tl2 c := by
          intro X tl2 hup hX c hc
          have hys2 : Paired (Rel tl2) ys U1.kids := by
            have gen : ∀ {ys : List Value} {ks : List Nat} {Us : List Tm}, Paired (fun v (c : Nat) => ∃ U, Num ns U c ∧ Rel TB v U) ys ks → Paired (fun k U => Num ns U k) ks Us → Paired (Rel tl2) ys Us := by
              intro ys ks Us h1
              induction h1 generalizing Us with
              | nil => intro h2; cases h2; exact .nil
              | cons a1 a2 ih =>
                intro h2
                cases h2 with | cons b1 b2 =>
                obtain ⟨U, hU, hR⟩ := a1
                exact .cons (by rw [Num.fun b1 hU]; exact hR.mono hup) (ih b2)
            exact gen hys hkU
          by_cases hck : c = k
          · subst hck
            exact ⟨_, U1, valueAt_stored_self, hU1, Rel.mk hX hys2⟩
          · rw [List.take_add_one, hk] at hc
            rcases List.mem_append.mp hc with hc | hc
            · obtain ⟨v, U, h1, h2, h3⟩ := hmade c hc
              exact ⟨v, U, by rw [valueAt_stored_ne (by omega)]; exact h1, h2, h3.mono (hTB ▸ hup)⟩
            · rw [Option.toList_some, List.mem_singleton] at hc
              exact absurd hc hck
        cases ys with
        | nil =>
          ((try k_fold); k_steps)
          rename_i D7 h7 F8 N8 z9
          have hX := mkOk D1 ((D1, tupO [.str U1.op tx]) :: TB) (fun p hp => .tail _ hp) (.head _)
          show wpAny _ _ (setItem _ _ _) _ _ _
          refine kda_set (knd := PySem.intKind _ _) F8 (News_sub (news' := (dm, om') :: (D1, tupO [.str U1.op tx]) :: (I1, oI') :: (D, W.listOf vs.toArray e) :: TB) N8 (by (k_extra "sub9"))) (UpdF.head (fcons (Nat.ne_of_gt l9a.2.2.1) (fcons (Nat.ne_of_gt (Nat.lt_trans hdmD hDI)) (fcons (Nat.ne_of_gt hdmD) htd)))) hD (intKind_is _ _ _ _) (k1000 hk1000) fun h5 om2 F5 N5 hD5 => ?_
          (try dsimp only at N5)
          ((try k_fold); k_steps)
          exact ih (vs.length - (j + 1)) _ (by omega) ⟨j + 1, _, om2, oI', (D1, tupO [.str U1.op tx]) :: tl, h5, _, _, _, rfl, hil, rfl, F5, e1, e2, News_sub N5 (by rw [hTB]; (k_extra "sub9")), hI', hD5, stored_len hkl, by rw [hTB] at hX; exact hX, fcons l9a.1 htl⟩
        | cons y ws =>
          have hws : ws.length ≤ 1000 := by simp at hyl2; omega
          ((try k_fold); k_steps)
          rename_i D7 h7 z7 z8 z9 D8 h8 F8 N8 l8
          clear z7 z8 z9
          show wpAny _ _ (setItem _ _ _) _ _ _
          refine kda_set (knd := PySem.intKind _ _) F8 (News_sub (news' := (dm, om') :: (D8, tupO (.str U1.op tx :: y :: ws)) :: (I1, oI') :: (D, W.listOf vs.toArray e) :: TB) N8 (by (k_extra "sub9"))) (UpdF.head (fcons (Nat.ne_of_gt l8.2.2.2.2.2.2.1) (fcons (Nat.ne_of_gt (Nat.lt_trans hdmD hDI)) (fcons (Nat.ne_of_gt hdmD) htd)))) hD (intKind_is _ _ _ _) (k1000 hk1000) fun h5 om2 F5 N5 hD5 => ?_
          (try dsimp only at N5)
          ((try k_fold); k_steps)
          have hX := mkOk D8 ((D8, tupO (.str U1.op tx :: y :: ws)) :: TB) (fun p hp => .tail _ hp) (.head _)
          exact ih (vs.length - (j + 1)) _ (by omega) ⟨j + 1, _, om2, oI', (D8, tupO (.str U1.op tx :: y :: ws)) :: tl, h5, _, _, _, rfl, hil, rfl, F5, e1, e2, News_sub N5 (by rw [hTB]; (k_extra "sub9")), hI', hD5, stored_len hkl, by rw [hTB] at hX; exact hX, fcons l8.2.2.2.2.1 htl⟩
    | none =>
      have hjl : j = vs.length := Nat.le_antisymm hj (List.getElem?_eq_none_iff.mp hv)
      (k_dflt (refine' list_stop (r := (dm, om') :: (tl ++ BASE)) ?hh ?F ?N ?hm ?hI ?ht ?hx ?hs ?ho ?_))
      case hh => exact rfl
      case F => assumption
      case N => assumption
      case hm => exact .head _
      case hI => assumption
      case ht => k_mem
      case hx => simpa using hv
      case hs => exact fun p hp => .tail _ (.tail _ hp)
      case ho => exact fun p hp => hoffI p (.tail _ hp)
      intro h' F' N'
      clear N F hI ih
      have hiz : i ∈ kz.take j := by rw [hjl, hvl, List.take_of_length_le (Nat.le_refl _)]; exact hPz.mem_iff.mpr hS.root
      obtain ⟨vr, Ur, hvr, hUr, hRr⟩ := hmade i hiz
      have hUe := Num.fun hUr hT
      subst hUe
      obtain ⟨G, hG, N'⟩ := News_letter N'
      have mcG : (L' + 1, okm) ∈ G := by rw [hG]; exact .tail _ (List.mem_append_right _ hcB)
      have mdG : (dm, om') ∈ G := by rw [hG]; exact .head _
      ((try k_fold); k_steps)
      have hsubR : ∀ p ∈ (tl ++ [(L' + 1, okm)]) ++ rest, p ∈ tl ++ BASE := by rw [hBA]; (k_extra "sub9")
      have hsubR2 : ∀ p ∈ tl ++ BASE, p ∈ (tl ++ [(L' + 1, okm)]) ++ rest := by rw [hBA]; (k_extra "sub9")
      rename_i kF kN kT kX
      refine hret _ ((tl ++ [(L' + 1, okm)]) ++ rest) _ _ _ kF (News_sub kN fun p hp => by rw [hG]; exact .tail _ (hsubR p hp)) ⟨_, rfl, hRr.mono hsubR2, ?_⟩
      exact fapp (fun p hp q hq => Nat.lt_trans (hbd q (hrB q hq)) (Nat.lt_trans hdmD (Nat.lt_trans hDI (htl p hp)))) (fcons l1b.mem (fun _ h => nomatch h))
  · rw [List.concat_eq_append] at *
    obtain ⟨vs0, tk0, rfl, hst0⟩ := nats_snoc hst
    have hvl : vs0.length = st0.length := Paired.length hst0
    rw [List.length_append] at hle
    have hb : (vs0 ++ [Value.int (k : Int) tk0]).length ≤ 1000 := by simp; omega
    have hcmp : (0 : Int) < ((vs0 ++ [Value.int (k : Int) tk0]).length : Int) := by rw [List.length_append]; simp only [List.length_cons, List.length_nil]; omega
    have hkS : k ∈ S := hS.sub k (List.mem_append_right _ ((.head _)))
    obtain ⟨U1, hU1⟩ := hS.good k hkS
    obtain ⟨ks, hnd, hkU⟩ := hU1.open
    have hks2 := low _ _ hnd
    obtain ⟨_, hnv, ad, rfl, tx, kvs, had, hks⟩ := Paired.get' K.nodes hnd
    have hkn := hU1.lt
    dsimp only at had hks hks2
    have hkvl : kvs.length < 1000 := by have := Paired.length hks; omega
    ((try k_fold); k_steps)
    rename_i h1 zF zN h9 tk9 dr9 F9 D9 N9 l9 I9 h10 oI9 F10 N10 hI9 l10
    clear zF zN F9 N9
    obtain ⟨Z, hZ⟩ : ∃ Z : Led, Z = (L' + 1, okc) :: rest := ⟨_, rfl⟩
    rw [← hZ] at N10
    have below : ∀ {x : Nat}, @LT.lt Nat _ (L' + 1) x → AllLt x rest → ∀ p ∈ Z, @LT.lt Nat _ p.1 x := fun h1 h2 => by rw [hZ]; exact fcons h1 h2.mem
    have zd := below n1.1 n1.2
    have zI := below l10.2.2.2.1 l10.2.2.2.2
    have zl := below l3.2.1 l3.2.2
    have z9 := below l9.2.2.1 l9.2.2.2
    have zd' : ∀ p ∈ Z, p.1 ≠ d1 := fun p hp => Nat.ne_of_lt (zd p hp)
    have zl' : ∀ p ∈ Z, p.1 ≠ ls := fun p hp => Nat.ne_of_lt (zl p hp)
    have dls := l3.1
    obtain ⟨q1, q2, q3, _⟩ := l10
    obtain ⟨q4, q5, _⟩ := l9
    have hoffI : ∀ (vs' : List Value) (n' : Nat) (oB' : Obj), ∀ p ∈ (D9, tupO kvs) :: (ls, W.listOf vs'.toArray n') :: (d1, oB') :: Z, p.1 ≠ I9 := fun vs' n' oB' => fcons (Nat.ne_of_lt q1) (fcons (Nat.ne_of_lt q2) (fcons (Nat.ne_of_lt q3) (fun p hp => Nat.ne_of_lt (zI p hp))))
    refine loop_ind (fun κ s' => Ex12 fun (j : Nat) (S' : List Nat) (st' : List Nat) (vs' : List Value) (kvs' : List (Int × Value)) (oB' : Obj) (n' : Nat) (oI : Obj) (hh : Heap) (tk : Nat) (dr : Drawn) (m'' : Str → Option Value) => And16 (κ = kvs.length - j) (j ≤ kvs.length) (s' = { s with heap := hh, toks := tk, drawn := dr }) (Fr _ _ hh m'') (m'' (Str.ofString "self") = some (.ref bk)) (m'' (Str.ofString "n") = some (.int (i : Int) t)) (m'' (Str.ofString "below") = some (.ref d1)) (m'' (Str.ofString "stack") = some (.ref ls)) (News _ _ hh ((I9, oI) :: (D9, tupO kvs) :: (ls, W.listOf vs'.toArray n') :: (d1, oB') :: Z)) (TIt oI D9 j) (oB'.IsDictOf (PySem.intKind PySem.Challenge.rw_rg0118_01.row.prog w) kvs') (Seen ns i S' st' kvs') (NatsAre vs' st') (∀ c ∈ S', c ∉ st' → c = k ∨ Closed ns S' c) (∀ c ∈ ks.take j, c ∈ S') (S'.length + st0.length = S.length + st'.length)) ?_ kvs.length _
      ⟨0, S, st0, vs0, kvsB, oB, nS + 1, oI9, h10, _, _, m', rfl, Nat.zero_le _, rfl, F10, e1, e2, e3, e4, N10, hI9, hD, hS.pop, hst0, fun c hc hn => if h : c = k then .inl h else .inr (hcl c hc fun h' => (List.mem_append.mp h').elim hn fun h'' => h (List.mem_singleton.mp h'')), fun c hc => by simp at hc, rfl⟩
    clear F10 N10 hI9 hD hS hst0 hst below F e1 e2 e3 e4 N
    rintro κ s' ⟨j, S', st', vs', kvs', oB', n', oI, hh, tkL, dr, m'', rfl, hj, rfl, F, e1, e2, e3, e4, N, hI, hD, hS, hst, hcl', htk, hlen⟩ ih
    have hSl' := hS.len
    have hk1000 : kvs'.length ≤ 1000 := by have := hS.klen; omega
    have hle' := hS.le
    have hvl' : vs'.length = st'.length := Paired.length hst
    have hv1000 : vs'.length ≤ 1000 := by omega
    cases hv : kvs[j]? with
    | some v =>
      obtain ⟨c, hc, tc, rfl⟩ := Paired.get hks hv
      obtain ⟨U2, hU2, hcU⟩ := Paired.get hkU hc
      (k_dflt (refine' tup_turn (g := fun o => (I9, o) :: (D9, tupO kvs) :: (ls, W.listOf vs'.toArray n') :: (d1, oB') :: Z) ?hh ?F ?N ?U ?hI ?ht ?ne ?hx ?_))
      case hh => exact rfl
      case F => assumption
      case N => assumption
      case U => exact UpdF.head (hoffI _ _ _)
      case hI => assumption
      case ht => k_mem
      case ne => exact hoffI vs' n' oB' _ (.head _)
      case hx => assumption
      intro h' tk' oI' F' N' hI'
      clear N F hI
      (try dsimp only at N')
      ((try k_fold); k_steps)
      · rename_i hC FC NC tkz hin
        rw [hS.has] at hin
        have hcS : c ∈ S' := of_decide_eq_true hin
        have hil := (List.getElem?_eq_some_iff.mp hv).1
        refine ih (kvs.length - (j + 1)) _ (by omega) ⟨j + 1, S', st', vs', kvs', oB', n', oI', hC, _, _, _, rfl, hil, rfl, FC, e1, e2, e3, e4, NC, hI', hD, hS, hst, hcl', ?y2, hlen⟩
        rw [List.take_add_one, hc]
        intro x hx
        rcases List.mem_append.mp hx with hx | hx
        · exact htk x hx
        · rw [Option.toList_some, List.mem_singleton] at hx; exact hx ▸ hcS
      · rename_i hin tkB _ _ hB oB2 hD2 _ _ hC FC NC
        have hil := (List.getElem?_eq_some_iff.mp hv).1
        rw [hS.has] at hin
        have hcS : c ∉ S' := of_decide_eq_false hin
        simp only [List.push_toArray] at NC
        refine ih (kvs.length - (j + 1)) _ (by omega) ⟨j + 1, S' ++ [c], st' ++ [c], vs' ++ [.int (c : Int) tc], _, oB2, n' + 1, oI', hC, _, _, _, rfl, hil, rfl, FC, e1, e2, e3, e4, NC, hI', hD2, hS.push hcS ⟨_, hcU⟩, Paired.append hst (.cons ⟨_, rfl⟩ .nil), ?z1, ?z2, by simp; omega⟩
        case z1 =>
          intro x hx hn
          rcases List.mem_append.mp hx with hx | hx
          · exact (hcl' x hx fun h => hn (List.mem_append_left _ h)).imp id fun h => h.mono fun j hj => List.mem_append_left _ hj
          · exact absurd (List.mem_append_right _ hx) hn
        case z2 =>
          rw [List.take_add_one, hc]
          intro x hx
          rcases List.mem_append.mp hx with hx | hx
          · exact List.mem_append_left _ ((htk x hx))
          · exact List.mem_append_right _ hx
    | none =>
      have hjl : j = kvs.length := Nat.le_antisymm hj (List.getElem?_eq_none_iff.mp hv)
      (k_dflt (refine' tup_stop (r := (ls, W.listOf vs'.toArray n') :: (d1, oB') :: Z) ?hh ?F ?N ?hm ?hI ?ht ?ne ?hx ?hs ?ho ?_))
      case hh => exact rfl
      case F => assumption
      case N => assumption
      case hm => exact .head _
      case hI => assumption
      case ht => k_mem
      case ne => exact hoffI vs' n' oB' _ (.head _)
      case hx => assumption
      case hs => exact fun p hp => .tail _ (.tail _ hp)
      case ho => exact fun p hp => hoffI vs' n' oB' p (.tail _ hp)
      intro h' tk' F' N'
      clear N F hI ih
      rw [hZ] at N'
      have hkk : ks.length = kvs.length := (Paired.length hks).symm
      rw [hjl, ← hkk, List.take_of_length_le (Nat.le_refl _)] at htk
      ((try k_fold); k_steps)
      have hlt : ns.length + st'.length - S'.length < ns.length + (st0 ++ [k]).length - S.length := by rw [List.length_append]; first | exact ms9 (by assumption) (by assumption) | (simp only [List.length_cons, List.length_nil]; omega)
      refine ⟨_, hlt, S', st', vs', kvs', oB', n', h', _, _, m'', rfl, F', e1, e2, e3, e4, N', hD, hS, hst, ?y1, rfl⟩
      intro c hc hn
      rcases hcl' c hc hn with h | h
      · subst h
        intro nd e j hj
        rw [hnd] at e
        cases e
        exact htk j hj
      · exact h

end

section
set_option maxHeartbeats 4000000
theorem wp_execs_append {M : Model} {Γ : PySem.Ctx} {env : Env} {l2 : List Stmt} {E : Value → Pos → Shared → Prop} {Q : Flow → Pos → Shared → Prop} : ∀ (l1 : List Stmt) (p : Pos) (s : Shared),
    PySem.Sem.wp M Γ (execs l1 env) (fun f p' s' => match f with | .next => PySem.Sem.wp M Γ (execs l2 env) Q E p' s' | f => Q f p' s') E p s → PySem.Sem.wp M Γ (execs (l1 ++ l2) env) Q E p s
  | [], _, _, h => h
  | st :: l1, p, s, h => by
    rw [List.cons_append, PySem.execs_cons, PySem.Sem.wp_bind']
    rw [PySem.execs_cons, PySem.Sem.wp_bind'] at h
    refine PySem.Sem.wp_mono M Γ _ (fun f p' s' h' => ?_) (fun _ _ _ h' => h') _ _ h
    cases f
    · exact wp_execs_append l1 p' s' h'
    all_goals exact h'
theorem cut_execs {M : Model} {A : Around} {E : Value → Shared → Prop} {env : Env} {s : Shared} {Q : Flow → Shared → Prop} {l : List Stmt} (k : Nat) (P : Shared → Prop)
    (h1 : wpAny M A (execs (l.take k) env) (fun f s' => f = .next ∧ Hold (P s')) E s) (h2 : ∀ s', P s' → wpAny M A (execs (l.drop k) env) Q E s') : wpAny M A (execs l env) Q E s := fun Γ p hΓ => by
  have e := List.take_append_drop k l
  rw [← e]
  refine wp_execs_append _ _ _ (PySem.Sem.wp_mono M Γ _ (fun f p' s' h' => ?_) (fun _ _ _ h => h) _ _ (h1 Γ p hΓ))
  obtain ⟨rfl, hp⟩ := h'
  exact h2 s' hp Γ p' hΓ

end

section
set_option maxHeartbeats 4000000
noncomputable def ENDS : List Str := [Str.ofString "?x", Str.ofString "?y", Str.ofString "?w", Str.ofString "a", Str.ofString "leaf0", Str.ofString "leaf1", Str.ofString "leaf2"]
noncomputable def CONSTS : List Str := [Str.ofString "a", Str.ofString "leaf0", Str.ofString "leaf1", Str.ofString "leaf2"]
inductive IsPat : Tm → Prop
  | f {x} : x ∈ ENDS → IsPat (.f x)
  | gff {x y} : x ∈ ENDS → y ∈ ENDS → IsPat (.gff x y)
theorem IsPat.ends {T : Tm} (h : IsPat T) : ∀ x ∈ T.ends, x ∈ ENDS := by
  cases h with
  | f h => intro x hx; rw [List.mem_singleton.mp hx]; exact h
  | gff h1 h2 =>
    intro x hx
    rcases List.mem_cons.mp hx with rfl | hx
    · exact h1
    · rw [List.mem_singleton.mp hx]; exact h2
theorem ends_len : (ENDS.all fun x => decide (x.length ≤ 100)) = true := by decide +kernel
theorem ends_short {x : Str} (h : x ∈ ENDS) : Short x := of_decide_eq_true (p := x.length ≤ 100) (List.all_eq_true.mp ends_len x h)
theorem short_of_ends {T : Tm} (h : ∀ x ∈ T.ends, x ∈ ENDS) : T.short := fun x hx => ends_short (h x hx)
theorem var_fg : Mine.isVar (Str.ofString "f") = false ∧ Mine.isVar (Str.ofString "g") = false := by decide +kernel
theorem Tm.isVar_op (U : Tm) : U.isVar = Mine.isVar U.op := by
  cases U
  · rfl
  · exact var_fg.1.symm
  all_goals exact var_fg.2.symm
theorem Tm.op_mem {T U : Tm} (h : U ∈ T.subs) : U.op = Str.ofString "f" ∨ U.op = Str.ofString "g" ∨ U.op ∈ T.ends := by
  cases T <;> simp only [Tm.subs, List.mem_cons, List.not_mem_nil, or_false] at h <;> rcases h with rfl | rfl | rfl | rfl | rfl <;> simp [Tm.op, Tm.ends]
theorem fg_short : Short (Str.ofString "f") ∧ Short (Str.ofString "g") := by unfold Short; decide +kernel
theorem Tm.short.op {T U : Tm} (h : T.short) (hU : U ∈ T.subs) : Short U.op := by
  rcases T.op_mem hU with e | e | e
  · rw [e]; exact fg_short.1
  · rw [e]; exact fg_short.2
  · exact h _ e
theorem IsPat.vars_len {T : Tm} (h : IsPat T) : (T.subs.filter Tm.isVar).length ≤ 2 := by
  cases h with
  | @f x h =>
    have e : (Tm.f x).subs.filter Tm.isVar = [Tm.l x].filter Tm.isVar := rfl
    rw [e]; exact Nat.le_trans (List.length_filter_le _ _) (Nat.le_of_ble_eq_true rfl)
  | @gff x y h1 h2 =>
    have e : (Tm.gff x y).subs.filter Tm.isVar = [Tm.l x, Tm.l y].filter Tm.isVar := rfl
    rw [e]; exact Nat.le_trans (List.length_filter_le _ _) (Nat.le_of_ble_eq_true rfl)
theorem ends_consts : (ENDS.filter fun x => !Mine.isVar x) = CONSTS := by decide +kernel
noncomputable def SOME (T0 : Tm) : List Str := T0.vars ++ CONSTS
theorem strs_at {vs : List Value} {ss : List Str} (h : StrsAre vs ss) {i : Nat} {v : Value} (hv : vs[i]? = some v) : ∃ x t, v = .str x t ∧ ss[i]? = some x := by
  obtain ⟨x, t, r', rfl, e, _⟩ := StrsAre_at (StrsAre_drop h i) hv
  refine ⟨x, t, rfl, ?_⟩
  have : (ss.drop i)[0]? = some x := by rw [e]; rfl
  simpa using this
theorem Rel.lean {l : Led} {v : Value} {T : Tm} (h : Rel l v T) : ∃ tm : Led, (∀ p ∈ tm, p ∈ l) ∧ Rel tm v T ∧ (∀ p ∈ tm, ∃ vs, p.2 = tupO vs) := by
  cases h with
  | @l a x t a1 => exact ⟨[(a, tupO [.str x t])], fun p hp => by rw [List.mem_singleton.mp hp]; exact a1, .l (.head _), fun p hp => by rw [List.mem_singleton.mp hp]; exact ⟨_, rfl⟩⟩
  | @f a b x t u a1 a2 => exact ⟨[(_, _), (_, _)], fcons a1 (fcons a2 (fun _ h => nomatch h)), .f (.head _) (.tail _ (.head _)), fcons (⟨_, rfl⟩) (fcons (⟨_, rfl⟩) (fun _ h => nomatch h))⟩
  | gll a1 a2 a3 => exact ⟨[(_, _), (_, _), (_, _)], fcons a1 (fcons a2 (fcons a3 (fun _ h => nomatch h))), .gll (.head _) (.tail _ (.head _)) (.tail _ (.tail _ (.head _))), fcons (⟨_, rfl⟩) (fcons (⟨_, rfl⟩) (fcons (⟨_, rfl⟩) (fun _ h => nomatch h)))⟩
  | gfl a1 a2 a3 a4 => exact ⟨[(_, _), (_, _), (_, _), (_, _)], fcons a1 (fcons a2 (fcons a3 (fcons a4 (fun _ h => nomatch h)))), .gfl (.head _) (.tail _ (.head _)) (.tail _ (.tail _ (.head _))) (.tail _ (.tail _ (.tail _ (.head _)))), fcons (⟨_, rfl⟩) (fcons (⟨_, rfl⟩) (fcons (⟨_, rfl⟩) (fcons (⟨_, rfl⟩) (fun _ h => nomatch h))))⟩
  | gff a1 a2 a3 a4 a5 => exact ⟨[(_, _), (_, _), (_, _), (_, _), (_, _)], fcons a1 (fcons a2 (fcons a3 (fcons a4 (fcons a5 (fun _ h => nomatch h))))), .gff (.head _) (.tail _ (.head _)) (.tail _ (.tail _ (.head _))) (.tail _ (.tail _ (.tail _ (.head _)))) (.tail _ (.tail _ (.tail _ (.tail _ (.head _))))), fcons (⟨_, rfl⟩) (fcons (⟨_, rfl⟩) (fcons (⟨_, rfl⟩) (fcons (⟨_, rfl⟩) (fcons (⟨_, rfl⟩) (fun _ h => nomatch h)))))⟩
theorem off_cell {h₀ h : Heap} {L : Addr} {l : Led} (N : News h₀ L h l) {p : Addr × Obj} {a : Addr} {oc : Obj} {x : Option Value} (hp : p ∈ l) (hq : (a, oc) ∈ l) (hd : oc.data = .cell x) (ht : ∃ vs, p.2 = tupO vs) : p.1 ≠ a := fun e => by
  have h1 := (N p hp).1
  rw [e, (N _ hq).1] at h1
  obtain ⟨vs, hv⟩ := ht
  have h2 := Option.some.inj h1
  simp only at h2
  rw [h2, hv] at hd
  cases hd
theorem some_ends {T0 : Tm} (h : IsPat T0) : ∀ x ∈ SOME T0, x ∈ ENDS := by
  intro x hx
  rcases List.mem_append.mp hx with hx | hx
  · have h1 := (sortV_perm _).mem_iff.mp hx
    have h2 : x ∈ (T0.subs.filter Tm.isVar).map Tm.op := by
      have : ∀ (l : List Str), l.length ≤ 2 → ∀ y ∈ dd l, y ∈ l := by
        intro l hl y hy
        match l, hl with
        | [], _ => exact hy
        | [a], _ => exact hy
        | [a, b], _ =>
          simp only [dd] at hy
          split at hy
          · rw [List.mem_singleton.mp hy]; exact .head _
          · exact hy
      exact this _ (by rw [List.length_map]; exact h.vars_len) _ h1
    obtain ⟨U, hU, rfl⟩ := List.mem_map.mp h2
    obtain ⟨hU1, hU2⟩ := List.mem_filter.mp hU
    cases U with
    | l x =>
      have : x ∈ T0.ends := by
        rcases T0.op_mem hU1 with e | e | e
        · have e : x = _ := e
          rw [e] at hU2; exact absurd hU2 (by rw [show (Tm.l (Str.ofString "f")).isVar = Mine.isVar (Str.ofString "f") from rfl, var_fg.1]; exact Bool.false_ne_true)
        · have e : x = _ := e
          rw [e] at hU2; exact absurd hU2 (by rw [show (Tm.l (Str.ofString "g")).isVar = Mine.isVar (Str.ofString "g") from rfl, var_fg.2]; exact Bool.false_ne_true)
        · exact e
      exact h.ends _ this
    | _ => exact absurd hU2 Bool.false_ne_true
  · rw [← ends_consts] at hx
    exact (List.mem_filter.mp hx).1
theorem some_len {T0 : Tm} (h : IsPat T0) : 0 < (SOME T0).length ∧ (SOME T0).length < 50 := by
  have := vars_length T0 h.vars_len
  unfold SOME
  rw [List.length_append]
  have e : CONSTS.length = 4 := rfl
  omega
theorem off_tup {h₀ h : Heap} {L : Addr} {l : Led} (N : News h₀ L h l) {p : Addr × Obj} {a : Addr} {oc : Obj} (hp : p ∈ l) (hq : (a, oc) ∈ l) (hd : ∀ vs, oc ≠ tupO vs) (ht : ∃ vs, p.2 = tupO vs) : p.1 ≠ a := fun e => by
  have h1 := (N p hp).1
  rw [e, (N _ hq).1] at h1
  obtain ⟨vs, hv⟩ := ht
  exact hd vs ((Option.some.inj h1).trans hv)
noncomputable def KALL : List Str := Str.ofString "f" :: Str.ofString "g" :: ENDS
theorem kall_leaf : ((List.range 21).all fun n => !(KALL.contains (LF n)) || decide (n ≤ 2)) = true := by decide +kernel
theorem leaf_low {n : Nat} (hn : n ≤ 20) (h : LF n ∈ KALL) : n ≤ 2 := by
  have := List.all_eq_true.mp kall_leaf n (List.mem_range.mpr (by omega))
  have hc : KALL.contains (LF n) = true := List.contains_iff_mem.mpr h
  rw [hc] at this
  simpa using this
theorem ops_kall {T : Tm} (h : ∀ x ∈ T.ends, x ∈ ENDS) {U : Tm} (hU : U ∈ T.subs) : U.op ∈ KALL := by
  rcases T.op_mem hU with e | e | e
  · rw [e]; exact .head _
  · rw [e]; exact .tail _ (.head _)
  · exact .tail _ (.tail _ (h _ e))
theorem opsK {T0 T1 T2 : Tm} (h0 : ∀ x ∈ T0.ends, x ∈ ENDS) (h1 : ∀ x ∈ T1.ends, x ∈ ENDS) (h2 : ∀ x ∈ T2.ends, x ∈ ENDS) : ∀ x ∈ ([T0, T1, T2].flatMap Tm.subs).map Tm.op, x ∈ KALL := by
  intro x hx
  obtain ⟨U, hU, rfl⟩ := List.mem_map.mp hx
  obtain ⟨T, hT, hU2⟩ := List.mem_flatMap.mp hU
  simp only [List.mem_cons, List.not_mem_nil, or_false] at hT
  rcases hT with rfl | rfl | rfl
  · exact ops_kall h0 hU2
  · exact ops_kall h1 hU2
  · exact ops_kall h2 hU2
theorem fl_ge (K : List Str) : ∀ n k, k ≤ fl K n k
  | 0, k => Nat.le_refl _
  | n + 1, k => by
    unfold fl; split
    · have := fl_ge K n (k + 1); omega
    · exact Nat.le_refl _
theorem leaf_inj0 : ((List.range 5).all fun a => (List.range 5).all fun b => decide (LF a = LF b → a = b)) = true := by decide +kernel
theorem leaf_inj {a b : Nat} (ha : a ≤ 4) (hb : b ≤ 4) (h : LF a = LF b) : a = b := by
  have := List.all_eq_true.mp (List.all_eq_true.mp leaf_inj0 a (List.mem_range.mpr (by omega))) b (List.mem_range.mpr (by omega))
  exact of_decide_eq_true this h
structure SigP (σ : Str → Option Str) (vs K : List Str) : Prop where
  on : ∀ x ∈ vs, ∃ n, n ≤ 4 ∧ σ x = some (LF n) ∧ LF n ∉ K
  out : ∀ x, x ∉ vs → σ x = none
  inj : ∀ x y z, σ x = some z → σ y = some z → x = y
theorem asg_spec {K : List Str} (hK : ∀ n, n ≤ 20 → LF n ∈ K → n ≤ 2) (vs : List Str) (hl : vs.length ≤ 2) (nd : vs.Nodup) : SigP (tabσ (asgL K 0 vs)) vs K := by
  have ha := fl_max hK 3 0 (by omega)
  have ha2 := fl_free hK 3 0 (by omega) (by omega)
  have ha3 : fl K 3 0 ≤ 3 := by omega
  have hb := fl_max hK 3 (fl K 3 0 + 1) (by omega)
  have hb2 := fl_free hK 3 (fl K 3 0 + 1) (by omega) (by omega)
  have hb3 := fl_ge K 3 (fl K 3 0 + 1)
  have hb4 : fl K 3 (fl K 3 0 + 1) ≤ 4 := by omega
  match vs, hl, nd with
  | [], _, _ => exact ⟨(fun _ h => nomatch h), fun _ _ => rfl, fun x y z h => nomatch h⟩
  | [x], _, _ =>
    have e : ∀ u, tabσ (asgL K 0 [x]) u = if x = u then some (LF (fl K 3 0)) else none := by
      intro u
      by_cases h : x = u <;> simp [tabσ, asgL, List.find?_cons, h]
    refine ⟨fun u hu => ⟨_, by omega, ?_, ha2⟩, fun u hu => ?_, fun u v z h1 h2 => ?_⟩
    · rw [e, if_pos (List.mem_singleton.mp hu).symm]
    · rw [e, if_neg fun h => hu (List.mem_singleton.mpr h.symm)]
    · rw [e] at h1 h2
      by_cases q1 : x = u
      · by_cases q2 : x = v
        · exact q1.symm.trans q2
        · rw [if_neg q2] at h2; cases h2
      · rw [if_neg q1] at h1; cases h1
  | [x, y], _, nd =>
    have hxy : x ≠ y := by simpa using nd
    have e : ∀ u, tabσ (asgL K 0 [x, y]) u = if x = u then some (LF (fl K 3 0)) else if y = u then some (LF (fl K 3 (fl K 3 0 + 1))) else none := by
      intro u
      by_cases h : x = u <;> by_cases h2 : y = u <;> simp [tabσ, asgL, List.find?_cons, h, h2]
    refine ⟨fun u hu => ?_, fun u hu => ?_, fun u v z h1 h2 => ?_⟩
    · rcases List.mem_cons.mp hu with rfl | hu
      · exact ⟨_, by omega, by rw [e, if_pos rfl], ha2⟩
      · obtain rfl := List.mem_singleton.mp hu
        exact ⟨_, hb4, by rw [e, if_neg hxy, if_pos rfl], hb2⟩
    · have n1 : ¬ x = u := fun h => hu (h ▸ List.mem_cons_self)
      have n2 : ¬ y = u := fun h => hu (h ▸ List.mem_cons_of_mem _ List.mem_cons_self)
      rw [e, if_neg n1, if_neg n2]
    · rw [e] at h1 h2
      have key : ∀ a b : Nat, a ≤ 4 → b ≤ 4 → a ≠ b → LF a = z → LF b = z → False := fun a b h1 h2 h3 h4 h5 => h3 (leaf_inj h1 h2 (h4.trans h5.symm))
      by_cases q1 : x = u
      · rw [if_pos q1] at h1
        by_cases q2 : x = v
        · exact q1.symm.trans q2
        · rw [if_neg q2] at h2
          by_cases q3 : y = v
          · rw [if_pos q3] at h2
            exact (key _ _ (by omega) hb4 (by omega) (Option.some.inj h1) (Option.some.inj h2)).elim
          · rw [if_neg q3] at h2; cases h2
      · rw [if_neg q1] at h1
        by_cases q4 : y = u
        · rw [if_pos q4] at h1
          by_cases q2 : x = v
          · rw [if_pos q2] at h2
            exact (key _ _ (by omega) hb4 (by omega) (Option.some.inj h2) (Option.some.inj h1)).elim
          · rw [if_neg q2] at h2
            by_cases q3 : y = v
            · exact q4.symm.trans q3
            · rw [if_neg q3] at h2; cases h2
        · rw [if_neg q4] at h1; cases h1
theorem sig_spec {T0 T1 T2 : Tm} (hP : IsPat T0) (h1 : ∀ x ∈ T1.ends, x ∈ SOME T0) (h2 : ∀ x ∈ T2.ends, x ∈ SOME T0) : (∀ n, n ≤ 20 → LF n ∈ ([T0, T1, T2].flatMap Tm.subs).map Tm.op → n ≤ 2) ∧ SigP (sig T0 T1 T2) T0.vars (([T0, T1, T2].flatMap Tm.subs).map Tm.op) := by
  have hK : ∀ n, n ≤ 20 → LF n ∈ ([T0, T1, T2].flatMap Tm.subs).map Tm.op → n ≤ 2 := fun n hn h => leaf_low hn (opsK hP.ends (fun x hx => some_ends hP x (h1 x hx)) (fun x hx => some_ends hP x (h2 x hx)) _ h)
  exact ⟨hK, asg_spec hK _ (vars_length _ hP.vars_len) (vars_nodup _ hP.vars_len)⟩
theorem isVar_const : (CONSTS.all fun x => !Mine.isVar x) = true := by decide +kernel
theorem some_var {T0 : Tm} {x : Str} (h : x ∈ SOME T0) (hv : Mine.isVar x = true) : x ∈ T0.vars := by
  rcases List.mem_append.mp h with h | h
  · exact h
  · have := List.all_eq_true.mp isVar_const x h
    rw [hv] at this
    cases this
theorem leaf_short0 : ((List.range 5).all fun n => decide ((LF n).length ≤ 100)) = true := by decide +kernel
theorem leaf_short {n : Nat} (h : n ≤ 4) : Short (LF n) := of_decide_eq_true (p := (LF n).length ≤ 100) (List.all_eq_true.mp leaf_short0 n (List.mem_range.mpr (by omega)))
theorem sigOk_of {σ : Str → Option Str} {T0 T : Tm} {K : List Str} (hP : IsPat T0) (S : SigP σ T0.vars K) (h : ∀ x ∈ T.ends, x ∈ SOME T0) : SigOk σ T := fun x hx =>
  ⟨ends_short (some_ends hP x (h x hx)), fun hv => let ⟨_, hn, e, _⟩ := S.on x (some_var (h x hx) hv); ⟨_, e, leaf_short hn⟩⟩

end

section
set_option maxHeartbeats 4000000
open PyProof.Rows.LCg
section
variable {prog : Program} {w : World} {A : Around} {E : Value → Shared → Prop} {h₀ : Heap} {L C D : Addr} {m mC : Str → Option Value} {ys : List Value} {s : Shared} {env : Env}
theorem compK_top (_ : Fr h₀ L s.heap m) {elt it c : PySem.Expr} {xn : Str} {px : Pos} {scope : Scope} {pos : Pos} {cl : List (Str × Addr)} {Q : Value → Shared → Prop}
    (hh : A.handled = none) (hclos : closureFor scope env = pure cl) (hcell : ∀ y ∈ scope.names, y.2 ≠ .cell) (hkind : scope.kind = .function) (hnames : ∀ y ∈ scope.names, y.2 = .local → scope.names.lookup y.1 = some .local)
    (hs : ∀ x, foldedSetIterable it env x = pure x) (hxn : ∀ C, (compEnvC scope cl C env).kindOf xn = some .local)
    (h : wpAny (model prog w) A (eval it env) (fun xv s₁ => Hold (Ex7 fun (ax : Addr) (oX : Obj) (nX : Nat) (vs : List Value) (l : Led) (kept : Led) (J : Nat → List Value → Led → Prop) => And12 (xv = .ref ax) (h₀.get? ax = some oX) (oX.cls = .type "list") (oX.data = .seq vs.toArray nX) (Fr h₀ L s₁.heap m) (News h₀ L s₁.heap l) (∀ p ∈ kept, p ∈ l) (vs.length ≤ 1000) (J 0 [] l) (∀ i ys nw, J i ys nw → ys.length ≤ i) (∀ i v ys nw zl C D h tk dr (mC : Str → Option Value) (E' : Value → Shared → Prop), vs[i]? = some v → J i ys nw → (∀ p ∈ kept, p ∈ nw) → CV h₀ L m C D (fun y => if y = xn then some v else mC y) ys (zl ++ nw) h → (∀ q ∈ zl, ∀ p ∈ nw, p.1 ≠ q.1) →
        wpAny (model prog w) A (isTrue c (compEnvC scope cl C env) (eval c (compEnvC scope cl C env))) (fun ok s₄ =>
          if ok = true then wpAny (model prog w) A (eval elt (compEnvC scope cl C env)) (CvE h₀ L m C D zl kept ys (J (i + 1)) s₁) E' s₄ else CvS h₀ L m C D zl kept ys (J (i + 1)) s₁ s₄) E' { s₁ with heap := h, toks := tk, drawn := dr }) (∀ D ys nw h tk dr, Fr h₀ L h m → News h₀ L h ((D, lst ys) :: nw) → (∀ p ∈ nw, p.1 ≠ D) → (∀ p ∈ l, p.1 < D) → (∀ p ∈ kept, p ∈ nw) → J vs.length ys nw → Q (.ref D) { s₁ with heap := h, toks := tk, drawn := dr }))) E s) :
    wpAny (model prog w) A (eval (.ListComp elt [⟨.Name xn px, it, [c], 0⟩] scope pos) env) Q E s := by
  rw [eval_ListComp]
  refine wpAny_comprehension_free (use := none) rfl hs hclos hkind hnames (wpAny_mono h (fun xv s₁ h₁ => ?_) fun _ _ e => e)
  obtain ⟨ax, oX, nX, vs, l, kept, J, rfl, hX0, hXc, hXd, F, N, hkl, hsz, hJ, hlen, hb, hQ⟩ := h₁
  have isL : ∀ {h : Heap}, Fr h₀ L h m → h.IsList ax vs.toArray := fun F => ⟨oX, F.keep _ _ hX0, hXc, nX, hXd⟩
  have hlt : ax < s₁.heap.objs.size := Heap.lt_size (F.keep _ _ hX0)
  refine wpAny_pyIter_list (isL F) ?_
  generalize hH : s₁.heap.push { cls := .type "list_iterator", data := .fields #[.ref ax, .int 0 0] } = H
  have up : ∀ b o, s₁.heap.get? b = some o → H.get? b = some o := fun b o e => hH ▸ Heap.get?_push_of_some _ e
  have hIt : H.IsListIter s₁.heap.objs.size ax 0 := ⟨_, hH ▸ Heap.get?_push_size _ rfl, rfl, rfl⟩
  have hsz' : H.objs.size = s₁.heap.objs.size + 1 := by rw [← hH, Heap.size_push]
  have fr0 : h₀.get? s₁.heap.objs.size = none := by
    cases e : h₀.get? s₁.heap.objs.size with
    | none => rfl
    | some o' => exact absurd (Heap.lt_size (F.keep _ o' e)) (Nat.lt_irrefl _)
  have hLH : H.IsList ax vs.toArray := ⟨oX, up _ _ (F.keep _ _ hX0), hXc, nX, hXd⟩
  refine comp_open (s₂ := { s₁ with heap := H }) (fun ys nw => (∀ p ∈ kept, p ∈ nw) ∧ J vs.length ys nw) (F.keeps up) (News.grown N up) (by show _ < H.objs.size; rw [hsz']; exact Nat.lt_succ_self _) hcell hkind (fun s' Q' E' k q => wpAny_pyIter_listiter (hIt.at fun o e => k _ o e) q) (fun C D hC tk V hCI hDI k => ?_) (fun D ys nw hD tk dr F' N' o' lt' fin => hQ D ys nw hD tk dr F' N' o' lt' fin.1 fin.2)
  have hoffI : ∀ p ∈ l, p.1 ≠ s₁.heap.objs.size := fun p hp => Nat.ne_of_lt (Heap.lt_size (N p hp).1)
  have W := Walks.list (prog := prog) (w := w) hh s₁.heap.objs.size ax (Nat.ne_of_lt hlt) vs.toArray
  have hIL : L ≠ s₁.heap.objs.size := Nat.ne_of_lt F.ns.lt
  refine cv_gen (s := { s₁ with heap := hC, toks := tk }) (pos := it.pos) (body := fun v => letOwnedTupleGo (PySem.Expr.Name xn px) (.ref s₁.heap.objs.size) v >>= fun _ => PySem.assign (PySem.Expr.Name xn px) (compEnvC scope cl C env) v >>= fun _ =>
        (forIn [c] true fun c r => if r = true then do let ok ← isTrue c (compEnvC scope cl C env) (eval c (compEnvC scope cl C env)); pure (ForInStep.yield ok) else pure (ForInStep.yield r)) >>= fun ok =>
        if ok = true then (eval elt (compEnvC scope cl C env) >>= fun x => call (.builtin "list.append") [.ref D, x] >>= fun _ => pure ()) >>= fun _ => again (.compLoop (.ListComp elt [⟨PySem.Expr.Name xn px, it, [c], 0⟩] scope pos) 0 (.ref s₁.heap.objs.size) (.ref D) (compEnvC scope cl C env))
        else again (.compLoop (.ListComp elt [⟨PySem.Expr.Name xn px, it, [c], 0⟩] scope pos) 0 (.ref s₁.heap.objs.size) (.ref D) (compEnvC scope cl C env))) (n := vs.length)
    (fun i s' => Ex7 fun ys nw h tk dr mC oI => And6 (s' = { s₁ with heap := h, toks := tk, drawn := dr }) (CV h₀ L m C D mC ys ((s₁.heap.objs.size, oI) :: nw) h) (h.IsListIter s₁.heap.objs.size ax i) (∀ p ∈ kept, p ∈ nw) (∀ p ∈ nw, p.1 ≠ s₁.heap.objs.size) (J i ys nw)) rfl rfl (compTurn_list _ _ _ _ _ _ _ _ _) rfl ?st ?sp ?s0
  case s0 =>
    obtain ⟨oI, heI, _⟩ := hIt.at fun o e => k _ o e
    exact ⟨[], l, hC, _, _, _, oI, rfl, V.add heI (Ne.symm hCI) (Ne.symm hDI) (Ne.symm hIL) fr0, hIt.at fun o e => k _ o e, hkl, hoffI, hJ⟩
  case st =>
    rintro i _ E' hi ⟨ys, nw, h, tk', dr, mC, oI, rfl, V', hit, hk', hoff, hJ'⟩
    refine W.item i _ _ _ (by simpa using hi) ⟨hit, isL V'.F⟩ fun v h₂ tk₂ hP hst₂ hk₂ => ?_
    have hv' : vs[i]? = some v := by simpa using hP
    refine ⟨v, rfl, ?_⟩
    have V₂ := (V'.sub (news' := nw) fun p hp => .tail _ hp).but (fun b o hb e => hk₂ b o (by simpa using hb) e) hCI hDI hIL fr0 hoff
    obtain ⟨oI₂, heI₂, hcI₂, hdI₂⟩ := id hst₂.1
    have V₃ := V₂.add heI₂ (Ne.symm hCI) (Ne.symm hDI) (Ne.symm hIL) fr0
    refine wpAny_bind ?_
    unfold letOwnedTupleGo
    refine wpAny_pure (wpAny_bind ?_)
    refine cv_store (s := { s₁ with heap := h₂, toks := tk₂, drawn := dr }) V₃ rfl hkind (hxn C) fun h₃ V₄ => ?_
    have back : ∀ {h' : Heap}, h'.get? s₁.heap.objs.size = some oI₂ → h'.IsListIter s₁.heap.objs.size ax (i + 1) := fun e => ⟨oI₂, e, hcI₂, hdI₂⟩
    refine wpAny_bind (wpAny_tests_one (wpAny_mono (hb i v ys nw [(s₁.heap.objs.size, oI₂)] C D h₃ _ dr mC E' hv' hJ' hk' V₄ (fun q hq p hp => by rw [List.mem_singleton.mp hq]; exact hoff p hp)) (fun ok s₄ h₄ => ?_) fun _ _ e => e))
    cases ok with
    | true =>
      refine wpAny_bind (wpAny_bind (wpAny_mono h₄ (fun y s₅ h₅ => ?_) fun _ _ e => e))
      obtain ⟨nw', h', tk'', dr', mC', rfl, V₅, hk₅, ho₅, hJ₅⟩ := h₅
      refine wpAny_bind (cv_append (s := { s₁ with heap := h', toks := tk'', drawn := dr' }) V₅ (by have := hlen _ _ _ hJ'; have := (List.getElem?_eq_some_iff.mp hv').1; rw [sizeLine_eq]; omega) fun h'' V₆ => wpAny_pure (wpAny_pure ⟨rfl, ys ++ [y], nw', h'', tk'', dr', mC', oI₂, rfl, V₆, back (V₆.N _ (.head _)).1, hk₅, fun p hp => ho₅ _ (.head _) p hp, hJ₅⟩))
    | false =>
      obtain ⟨nw', h', tk'', dr', mC', rfl, V₅, hk₅, ho₅, hJ₅⟩ := h₄
      exact wpAny_pure ⟨rfl, ys, nw', h', tk'', dr', mC', oI₂, rfl, V₅, back (V₅.N _ (.head _)).1, hk₅, fun p hp => ho₅ _ (.head _) p hp, hJ₅⟩
  case sp =>
    rintro _ E' ⟨ys, nw, h, tk', dr, mC, oI, rfl, V', hit, hk', hoff, hJ'⟩
    refine W.done _ _ _ (by simpa using ⟨hit, isL V'.F⟩) fun h₂ tk₂ hk₂ => ⟨rfl, ?_⟩
    have V₂ := (V'.sub (news' := nw) fun p hp => .tail _ hp).but (fun b o hb e => hk₂ b o (by simpa using hb) e) hCI hDI hIL fr0 hoff
    exact ⟨ys, nw, h₂, tk₂, dr, mC, rfl, rfl, V₂, hk', hJ'⟩
end

end

section
set_option maxHeartbeats 4000000
open PyProof.Rows.LCg
section
variable {prog : Program} {w : World} {A : Around} {E : Value → Shared → Prop} {h₀ : Heap} {L C D : Addr} {m mC : Str → Option Value} {ys : List Value} {nw : Led} {s : Shared} {env : Env} {h : Heap} {tk : Nat} {dr : Drawn}
theorem exec_comp {M : Model} {elt tg it : PySem.Expr} {ifs : List PySem.Expr} {gs : List Comprehension} {scope : Scope} {pos spos py : Pos} {y : Str} {Q : Flow → Shared → Prop}
    (hsw : swapsWith (.ListComp elt (⟨tg, it, ifs, 0⟩ :: gs) scope pos) (some (.Name y py)) spos.line env = pure true)
    (h : wpAny M A (comprehension (.ListComp elt (⟨tg, it, ifs, 0⟩ :: gs) scope pos) scope env (firstIterPos (⟨tg, it, ifs, 0⟩ :: gs) pos) (newList []) false (eval it env) (some (assign (.Name y py) env))) (fun _ s' => Q .next s') E s) :
    wpAny M A (exec (.Assign [.Name y py] (.ListComp elt (⟨tg, it, ifs, 0⟩ :: gs) scope pos) spos) env) Q E s := by
  rw [exec_Assign_Name_used _ _ _ _ hsw]
  refine wpAny_bind (wpAny_standAt (wpAny_bind ?_))
  show wpAny _ A (do let _ ← comprehension (.ListComp elt (⟨tg, it, ifs, 0⟩ :: gs) scope pos) scope env _ (newList []) false (eval it env) (some (assign (.Name y py) env))) _ _ s
  exact wpAny_bind (wpAny_mono h (fun _ s' hq => wpAny_pure (wpAny_pure hq)) fun _ _ e => e)
theorem cv_out {h' h'' : Heap} (V : CV h₀ L m C D mC ys nw h) {nw' : Led} (N : News h₀ L h' nw') (a : h'.get? D = some (lst ys)) (offC : ∀ p ∈ nw', p.1 ≠ C) (hs : Heap.SameBut C h' h'') : News h₀ L h'' ((D, lst ys) :: nw') := fun p hp => by
  rcases List.mem_cons.mp hp with rfl | hp
  · exact ⟨hs.extBut _ _ (Ne.symm V.CD) a, V.DL, V.D0⟩
  · exact ⟨hs.extBut _ _ (offC p hp) (N p hp).1, (N p hp).2⟩
theorem cv_useL {y : Str} {py : Pos} {Q : Value → Shared → Prop} (V : CV h₀ L m C D mC ys nw h) (hL : env.locals = L) (hy : env.kindOf y = some .local) (hp : (env.scope.kind == .class || (env.scope.kind == .module && env.locals != env.globals)) = false)
    (hQ : ∀ h'' tk', Fr h₀ L h'' (fun z => if z = y then some (.ref D) else m z) → News h₀ L h'' ((D, lst ys) :: nw) → Q .none { s with heap := h'', toks := tk', drawn := dr }) :
    compPost (model prog w) A E (some (assign (.Name y py) env)) Q (.ref D) C (.ok .next) { s with heap := h, toks := tk, drawn := dr } := by
  subst hL
  show wpAny _ A (assign (.Name y py) env (.ref D)) _ _ _
  refine wpAny_assign_Name (wpAny_storeName_local hy V.F.ns (fun h₂ hn₂ hs₂ => ?_) hp)
  have hL₀ : h₀.get? env.locals = none := Heap.get?_none_of_le V.F.above
  have F₂ : Fr h₀ env.locals h₂ (fun z => if z = y then some (.ref D) else m z) := ⟨hn₂, fun b o e => hs₂.extBut b o (fun q => by rw [q, hL₀] at e; cases e) (V.F.keep b o e), V.F.above⟩
  have up : ∀ b o, b ≠ env.locals → h.get? b = some o → h₂.get? b = some o := fun b o hb e => hs₂.extBut b o hb e
  refine ⟨mC, V.ns.sameBut hs₂ V.CL, fun h'' hs'' => hQ h'' _ (F₂.change hs'' V.CL V.C0) (cv_out V (fun p hp => ⟨up _ _ (V.N p hp).2.1 (V.N p hp).1, (V.N p hp).2⟩) (up _ _ V.DL V.acc) V.offC hs'')⟩
end

end

section
set_option maxHeartbeats 4000000
theorem valueAt_key {kvs : List (Str × Value)} {x : Str} (h : x ∈ kvs.map (·.1)) : ∃ v, valueAt kvs x = some v ∧ (x, v) ∈ kvs := by
  induction kvs with
  | nil => cases h
  | cons p r ih =>
    obtain ⟨k, v⟩ := p
    by_cases e : k = x
    · subst e
      exact ⟨v, by simp [valueAt, List.find?_cons], .head _⟩
    · rw [List.map_cons, List.mem_cons] at h
      rcases h with h | h
      · exact absurd h.symm e
      · obtain ⟨u, h1, h2⟩ := ih h
        exact ⟨u, by simp only [valueAt, List.find?_cons] at h1 ⊢; simpa [e] using h1, .tail _ h2⟩
theorem tgood_at {σ : Str → Option Str} {kvs : List (Str × Value)} {x : Str} (G : TGood σ kvs) (h : x ∈ kvs.map (·.1)) : ∃ z t, valueAt kvs x = some (.str z t) ∧ σ x = some z := by
  obtain ⟨v, h1, h2⟩ := valueAt_key h
  obtain ⟨y, t, e1, e2⟩ := G _ h2
  exact ⟨y, t, by rw [h1]; exact congrArg some e1, e2⟩
theorem keys_vars {σ : Str → Option Str} {vs K : List Str} {kvs : List (Str × Value)} (S : SigP σ vs K) (G : TGood σ kvs) : ∀ x ∈ kvs.map (·.1), x ∈ vs := by
  intro x hx
  obtain ⟨z, t, _, e⟩ := tgood_at G hx
  by_cases h : x ∈ vs
  · exact h
  · rw [S.out x h] at e; cases e
theorem nodup_two {l vs : List Str} (nd : l.Nodup) (h : ∀ x ∈ l, x ∈ vs) (hv : vs.length ≤ 2) : l.length ≤ 2 := by
  rcases l with _ | ⟨a, _ | ⟨b, _ | ⟨c, r⟩⟩⟩
  · exact Nat.zero_le _
  · exact Nat.le_of_ble_eq_true rfl
  · exact Nat.le_refl _
  · exfalso
    have ha := h a (.head _)
    have hb := h b (.tail _ (.head _))
    have hc := h c (.tail _ (.tail _ (.head _)))
    have n1 : a ≠ b := fun e => (List.nodup_cons.mp nd).1 (e ▸ .head _)
    have n2 : a ≠ c := fun e => (List.nodup_cons.mp nd).1 (e ▸ .tail _ (.head _))
    have n3 : b ≠ c := fun e => (List.nodup_cons.mp (List.nodup_cons.mp nd).2).1 (e ▸ .head _)
    rcases vs with _ | ⟨u, _ | ⟨v, _ | ⟨z, r2⟩⟩⟩
    · cases ha
    · exact n1 ((List.mem_singleton.mp ha).trans (List.mem_singleton.mp hb).symm)
    rotate_left
    · exact absurd hv (by simp)
    · simp only [List.mem_cons, List.not_mem_nil, or_false] at ha hb hc
      rcases ha with rfl | rfl <;> rcases hb with rfl | rfl <;> rcases hc with rfl | rfl <;> first | exact n1 rfl | exact n2 rfl | exact n3 rfl
noncomputable def lf (σ : Str → Option Str) (x : Str) : Str := (σ x).getD x
theorem leaf_var0 : ((List.range 5).all fun n => !Mine.isVar (LF n)) = true := by decide +kernel
theorem leaves_ok {σ : Str → Option Str} {vs K : List Str} {kvs : List (Str × Value)} {ss : List Str} (S : SigP σ vs K) (G : TGood σ kvs) (nd : (kvs.map (·.1)).Nodup) (hv : vs.length ≤ 2) (hp : ss.Perm (kvs.map (·.1))) :
    kvs.length ≤ 2 ∧ (ss.map (lf σ)).length ≤ 2 ∧ (ss.map (lf σ)).Nodup ∧ ∀ z ∈ ss.map (lf σ), z ∉ K ∧ Mine.isVar z = false ∧ Short z := by
  have h2 : kvs.length ≤ 2 := by have := nodup_two nd (keys_vars S G) hv; simpa using this
  have hl : ss.length = kvs.length := by have := hp.length_eq; simpa using this
  have ns : ss.Nodup := hp.nodup_iff.mpr nd
  have hs : ∀ x ∈ ss, ∃ n, n ≤ 4 ∧ σ x = some (LF n) ∧ LF n ∉ K := fun x hx => S.on x (keys_vars S G x (hp.mem_iff.mp hx))
  refine ⟨h2, by rw [List.length_map, hl]; exact h2, ?_, ?_⟩
  · have inj : ∀ a ∈ ss, ∀ b ∈ ss, lf σ a = lf σ b → a = b := by
      intro a ha b hb e
      obtain ⟨n, _, e1, _⟩ := hs a ha
      obtain ⟨m, _, e2, _⟩ := hs b hb
      have : LF n = LF m := by simpa [lf, e1, e2] using e
      exact S.inj a b (LF n) e1 (by rw [e2, this])
    rcases ss with _ | ⟨a, _ | ⟨b, _ | ⟨c, r⟩⟩⟩
    · exact List.nodup_nil
    · simp
    · have hab : a ≠ b := fun e => (List.nodup_cons.mp ns).1 (e ▸ .head _)
      have : lf σ a ≠ lf σ b := fun e => hab (inj a (.head _) b (.tail _ (.head _)) e)
      simpa using this
    · simp at hl; omega
  · intro z hz
    obtain ⟨x, hx, rfl⟩ := List.mem_map.mp hz
    obtain ⟨n, hn, e1, e2⟩ := hs x hx
    have : lf σ x = LF n := by simp [lf, e1]
    rw [this]
    exact ⟨e2, by have := List.all_eq_true.mp leaf_var0 n (List.mem_range.mpr (by omega)); simpa using this, leaf_short hn⟩
section
variable {prog : Program} {w : World} {A : Around} {E : Value → Shared → Prop} {s : Shared} {h₀ : Heap} {L : Addr} {news : Led}
theorem len_strsL {l : Addr} {vs : List Value} {ss : List Str} {n : Nat} {Q : Value → Shared → Prop} (N : News h₀ L s.heap news) (hm : (l, W.listOf vs.toArray n) ∈ news) (hS : StrsAre vs ss) (hb : ss.length ≤ 2)
    (h : Q (.int ss.length (s.toks + 1)) { s with toks := s.toks + 1 + 1 }) : wpAny (model prog w) A (call (.builtin "len") [.ref l]) Q E s :=
  len_some ⟨_, (N _ hm).1, rfl, _, rfl⟩ hS (Nat.le_trans hb (Nat.le_of_ble_eq_true rfl)) h
theorem in_strsL {l : Addr} {vs : List Value} {ys : List Str} {n : Nat} {k : Str} {t : Tok} {Q : Value → Shared → Prop} (N : News h₀ L s.heap news) (hm : (l, W.listOf vs.toArray n) ∈ news) (hS : StrsAre vs ys) (hn : k ∉ ys)
    (h : Q (.bool false) s) : wpAny (model prog w) A (compareOp .In (.str k t) (.ref l)) Q E s :=
  PyProof.Rows.in_list_strs ⟨_, (N _ hm).1, rfl, _, rfl⟩ hS (by
    rw [show ys.any (· == k) = false from Bool.eq_false_iff.mpr fun e => hn (by obtain ⟨y, hy, e⟩ := List.any_eq_true.mp e; exact (beq_iff_eq.mp e) ▸ hy)]
    exact h)
end
theorem ddv_nodup {K : Type} [DecidableEq K] : ∀ (l : List (K × Value)), (l.map (·.1)).Nodup → l.length ≤ 2 → (ddv l).length = l.length
  | [], _, _ => rfl
  | [_], _, _ => rfl
  | [a, b], nd, _ => by
    have : ¬ a.1 = b.1 := by simpa using nd
    simp [ddv, this]
  | _ :: _ :: _ :: _, _, h => absurd h (by simp)
theorem zip_keys {ss : List Str} {vs : List Value} (h : vs.length = ss.length) : (ss.zip vs).map (·.1) = ss := by
  exact List.map_fst_zip (Nat.le_of_eq h.symm)

end

section
set_option maxHeartbeats 4000000
theorem fill_subs {T : Tm} {σ : Str → Option Str} (h : T.isSide = true) : (T.fill σ).subs.length ≤ 4 := by
  cases T <;> first | exact Nat.le_of_ble_eq_true rfl | exact absurd h Bool.false_ne_true
theorem fill_ends {T : Tm} {σ : Str → Option Str} : (T.fill σ).ends = T.ends.map (fillS σ) := by cases T <;> rfl
theorem consts_ops : (CONSTS.all fun x => OPS.contains x) = true := by decide +kernel
theorem leaf_ops0 : ((List.range 5).all fun n => OPS.contains (LF n)) = true := by decide +kernel
theorem fillS_spec {σ : Str → Option Str} {T0 : Tm} {K : List Str} (S : SigP σ T0.vars K) {x : Str} (hx : x ∈ SOME T0) : (∃ n, n ≤ 4 ∧ σ x = some (LF n) ∧ fillS σ x = LF n ∧ LF n ∉ K) ∨ (x ∈ CONSTS ∧ fillS σ x = x) := by
  cases hv : Mine.isVar x with
  | true =>
    obtain ⟨n, hn, e, hk⟩ := S.on x (some_var hx hv)
    exact .inl ⟨n, hn, e, by unfold fillS; rw [hv, if_pos rfl, e]; rfl, hk⟩
  | false =>
    refine .inr ⟨?_, by unfold fillS; rw [hv]; rfl⟩
    rcases List.mem_append.mp hx with h | h
    · exfalso
      have h1 := (sortV_perm _).mem_iff.mp h
      have h2 : x ∈ (T0.subs.filter Tm.isVar).map Tm.op := by
        have : ∀ (l : List Str), ∀ y ∈ dd l, y ∈ l := by
          intro l y hy
          unfold dd at hy
          split at hy
          · split at hy
            · rw [List.mem_singleton.mp hy]; exact .head _
            · exact hy
          · exact hy
        exact this _ _ h1
      obtain ⟨U, hU, rfl⟩ := List.mem_map.mp h2
      have := (List.mem_filter.mp hU).2
      rw [Tm.isVar_op, hv] at this
      cases this
    · exact h
theorem fill_ops {σ : Str → Option Str} {T0 T : Tm} {K : List Str} (S : SigP σ T0.vars K) (hE : ∀ x ∈ T.ends, x ∈ SOME T0) : ∀ U ∈ (T.fill σ).subs, U.op ∈ OPS := by
  intro U hU
  rcases Tm.op_mem hU with e | e | e
  · rw [e]; exact .head _
  · rw [e]; exact .tail _ (.head _)
  · rw [fill_ends] at e
    obtain ⟨x, hx, e⟩ := List.mem_map.mp e
    rw [← e]
    rcases fillS_spec S (hE x hx) with ⟨n, hn, _, e2, _⟩ | ⟨hc, e2⟩
    · rw [e2]
      exact List.contains_iff_mem.mp (List.all_eq_true.mp leaf_ops0 n (List.mem_range.mpr (by omega)))
    · rw [e2]
      exact List.contains_iff_mem.mp (List.all_eq_true.mp consts_ops x hc)
theorem fillS_inj {σ : Str → Option Str} {T0 : Tm} {K : List Str} (S : SigP σ T0.vars K) {x y : Str} (hx : x ∈ SOME T0) (hy : y ∈ SOME T0) (kx : x ∈ K) (ky : y ∈ K) (e : fillS σ x = fillS σ y) : x = y := by
  rcases fillS_spec S hx with ⟨n, _, e1, e2, k1⟩ | ⟨_, e2⟩ <;> rcases fillS_spec S hy with ⟨m, _, e3, e4, k2⟩ | ⟨_, e4⟩ <;> rw [e2, e4] at e
  · exact S.inj x y (LF n) e1 (by rw [e3, e])
  · exact absurd (e ▸ ky) k1
  · exact absurd (e.symm ▸ kx) k2
  · exact e
theorem end_sub {T : Tm} {x : Str} (h : x ∈ T.ends) : Tm.l x ∈ T.subs := by
  cases T <;> simp only [Tm.ends, List.mem_cons, List.not_mem_nil, or_false] at h <;> rcases h with rfl | rfl <;> simp [Tm.subs]
theorem fill_inj {σ : Str → Option Str} {T0 T U : Tm} {K : List Str} (S : SigP σ T0.vars K) (hT : ∀ x ∈ T.ends, x ∈ SOME T0 ∧ x ∈ K) (hU : ∀ x ∈ U.ends, x ∈ SOME T0 ∧ x ∈ K) : T.fill σ = U.fill σ ↔ T = U := by
  constructor
  · intro e
    have inj : ∀ x ∈ T.ends, ∀ y ∈ U.ends, fillS σ x = fillS σ y → x = y := fun x hx y hy e => fillS_inj S (hT x hx).1 (hU y hy).1 (hT x hx).2 (hU y hy).2 e
    cases T <;> cases U <;> simp only [Tm.fill, Tm.l.injEq, Tm.f.injEq, Tm.gll.injEq, Tm.gfl.injEq, Tm.gff.injEq, reduceCtorEq] at e ⊢
    all_goals first
      | exact inj _ (.head _) _ (.head _) e
      | exact ⟨inj _ (.head _) _ (.head _) e.1, inj _ (.tail _ (.head _)) _ (.tail _ (.head _)) e.2⟩
  · intro e; rw [e]

end

section
set_option maxHeartbeats 4000000
noncomputable def Tm.dat : Tm → PyData
  | .l x => .tuple [.str x]
  | .f x => .tuple [.str (Str.ofString "f"), .tuple [.str x]]
  | .gll x y => .tuple [.str (Str.ofString "g"), .tuple [.str x], .tuple [.str y]]
  | .gfl x y => .tuple [.str (Str.ofString "g"), .tuple [.str (Str.ofString "f"), .tuple [.str x]], .tuple [.str y]]
  | .gff x y => .tuple [.str (Str.ofString "g"), .tuple [.str (Str.ofString "f"), .tuple [.str x]], .tuple [.str (Str.ofString "f"), .tuple [.str y]]]
theorem dat_eqv {T U : Tm} : PyData.eqv T.dat U.dat = true ↔ T = U := by
  cases T <;> cases U <;> simp [Tm.dat, PyData.eqv, PyData.eqvAll]
theorem strOk_fg : PyData.strOk (Str.ofString "f") = true ∧ PyData.strOk (Str.ofString "g") = true := by decide +kernel
theorem shaped_dat {T : Tm} (h : ∀ x ∈ T.ends, PyData.strOk x = true) : PySem.SeqAt.shaped T.dat = true := by
  have hf := strOk_fg.1
  have hg := strOk_fg.2
  cases T <;> simp only [Tm.ends, List.forall_mem_cons] at h <;> simp [Tm.dat, PySem.SeqAt.shaped, PyData.canLay0, PyData.canLayAll0, PyData.depth, PyData.depthAll, hf, hg, h]
theorem strOk_ends : (ENDS.all fun x => PyData.strOk x) = true := by decide +kernel
theorem strOk_ops : (OPS.all fun x => PyData.strOk x) = true := by decide +kernel
section
variable {h₀ h : Heap} {L : Addr} {l : Led}
theorem reads_leaf (N : News h₀ L h l) {a : Addr} {x : Str} {t : Tok} (m : (a, tupO [.str x t]) ∈ l) : Reads h (.ref a) (.tuple [.str x]) [] :=
  .tuple (as := []) (N _ m).1 rfl rfl (.cons (.str x t) .nil)
theorem reads_f (N : News h₀ L h l) {a b : Addr} {x : Str} {t u : Tok} (m : (a, tupO [.str (Str.ofString "f") u, .ref b]) ∈ l) (m2 : (b, tupO [.str x t]) ∈ l) : Reads h (.ref a) (.tuple [.str (Str.ofString "f"), .tuple [.str x]]) [] :=
  .tuple (as := []) (N _ m).1 rfl rfl (.cons (.str _ u) (.cons (reads_leaf N m2) .nil))
theorem Rel.reads (N : News h₀ L h l) {v : Value} {T : Tm} (R : Rel l v T) : Reads h v T.dat [] := by
  cases R with
  | l a => exact reads_leaf N a
  | f a b => exact reads_f N a b
  | gll a b c => exact .tuple (as := []) (N _ a).1 rfl rfl (.cons (.str _ _) (.cons (reads_leaf N b) (.cons (reads_leaf N c) .nil)))
  | gfl a b c d => exact .tuple (as := []) (N _ a).1 rfl rfl (.cons (.str _ _) (.cons (reads_f N b c) (.cons (reads_leaf N d) .nil)))
  | gff a b c d e => exact .tuple (as := []) (N _ a).1 rfl rfl (.cons (.str _ _) (.cons (reads_f N b c) (.cons (reads_f N d e) .nil)))
end
section
variable {prog : Program} {w : World} {A : Around} {E : Value → Shared → Prop} {s : Shared} {h₀ : Heap} {L : Addr} {l : Led}
theorem ne_terms {v u : Value} {T U : Tm} {Q : Value → Shared → Prop} (N : News h₀ L s.heap l) (R : Rel l v T) (S : Rel l u U) (hT : ∀ x ∈ T.ends, PyData.strOk x = true) (hU : ∀ x ∈ U.ends, PyData.strOk x = true) (hu : A.units + 64 < cLine) (h : Q (.bool (decide (T.dat.eqv U.dat = false))) s) :
    wpAny (model prog w) A (compareOp .NotEq v u) Q E s :=
  ne_dataH (R.reads N) (S.reads N) (shaped_dat hT) (shaped_dat hU) hu (by
    rw [show (!PyData.eqv T.dat U.dat) = decide (T.dat.eqv U.dat = false) by cases PyData.eqv T.dat U.dat <;> rfl]; exact h)
theorem eq_terms {v u : Value} {T U : Tm} {Q : Value → Shared → Prop} (N : News h₀ L s.heap l) (R : Rel l v T) (S : Rel l u U) (hT : ∀ x ∈ T.ends, PyData.strOk x = true) (hU : ∀ x ∈ U.ends, PyData.strOk x = true) (hu : A.units + 64 < cLine) (h : Q (.bool (T.dat.eqv U.dat)) s) :
    wpAny (model prog w) A (compareOp .Eq v u) Q E s :=
  eq_dataH (R.reads N) (S.reads N) (shaped_dat hT) (shaped_dat hU) hu h
theorem ne_same {v u : Value} {T : Tm} {Q : Value → Shared → Prop} (N : News h₀ L s.heap l) (R : Rel l v T) (S : Rel l u T) (hT : ∀ x ∈ T.ends, PyData.strOk x = true) (hu : A.units + 64 < cLine) (h : Q (.bool false) s) :
    wpAny (model prog w) A (compareOp .NotEq v u) Q E s :=
  ne_terms N R S hT hT hu (by rw [show decide (T.dat.eqv T.dat = false) = false by rw [dat_eqv.mpr rfl]; rfl]; exact h)
end

end

section
theorem names_ok : PySem.W.namesOk vw (PySem.W.looseW vw [Str.ofString "_law_ends"]) (PySem.W.namesW vw [Str.ofString "_law_ends"]) = true := by kernel_rfl
theorem imports_ok : PyProof.Rows.importsNone vw = true := by kernel_rfl
local macro_rules | `(tactic| k_qdec) => `(tactic| first | exact names_ok | exact imports_ok | fail "no")
theorem ln_TA_55 : True := by
  k_with "call ref" => ((with_reducible show wpAny _ _ (call (Value.ref 436) _) _ _ _); refine of_hold ?_)
  k_with "call ref" => ((with_reducible show wpAny _ _ (call (Value.ref 443) _) _ _ _); refine of_hold ?_)
  k_with "call ref" => ((with_reducible show wpAny _ _ (call (Value.ref 450) _) _ _ _); refine of_hold ?_)
  k_with "call ref" => ((with_reducible show wpAny _ _ (call (Value.ref 455) _) _ _ _); refine of_hold ?_)
  k_with "call ref" => ((with_reducible show wpAny _ _ (call (Value.ref 200) _) _ _ _); refine of_hold ?_)
  k_with "call ref" => ((with_reducible show wpAny _ _ (call (Value.ref 460) _) _ _ _); refine of_hold ?_)
  k_with "call ref" => ((with_reducible show wpAny _ _ (call (Value.ref 424) _) _ _ _); refine of_hold ?_)
  k_with "call ref" => ((with_reducible show wpAny _ _ (call (Value.ref 332) _) _ _ _); refine of_hold ?_)
  k_with "call ref" => ((with_reducible show wpAny _ _ (call (Value.ref 207) _) _ _ _); refine of_hold ?_)
  k_with "call ref" => ((with_reducible show wpAny _ _ (call (Value.ref 162) _) _ _ _); refine of_hold ?_)
  k_with "call ref" => ((with_reducible show wpAny _ _ (call (Value.ref 214) _) _ _ _); refine of_hold ?_)
  k_with "call ref" => ((with_reducible show wpAny _ _ (call (Value.ref 353) _) _ _ _); refine of_hold ?_)
  k_with "eval ListComp Name cons" => (refine of_hold ?_)
  k_with "exec Assign cons ListComp" => (refine of_hold ?_)
  k_with "call builtin:sorted" => (k_here; (with_reducible show wpAny _ _ (call (Value.builtin "sorted") [Value.ref _]) _ _ _); k_dflt (refine' sorted_dict_strs ?hhq9 ?Fq9 ?Nq9 ?mq9 ?dq9 ?lq9 ?bq9 ?_; (case hhq9 => exact rfl); (case Fq9 => k_asm); (case Nq9 => k_asm); (case mq9 => k_mem); (case dq9 => assumption); (case lq9 => assumption); (case bq9 => omega)); intro _ _ _ _ _ _ _ _ _ _ _)
  k_with "subscriptTail Name Name ref str" => (k_here; k_dflt (refine' kda_item ?Nq9 ?pq9 ?dq9 (strKind_is _ _ _ _) ?lq9 ?_; (case dq9 => assumption); (case Nq9 => k_asm); (case pq9 => k_mem); (case lq9 => assumption)))
  k_with "call type:set" => (((k_here; (with_reducible show wpAny _ _ (call (Value.type _) [Value.ref _]) _ _ _); k_dflt (refine' SG.set_of_strs ?hhq9 ?Fq9 ?Nq9 ?mq9 ?Sq9 ?bq9 ?_; (case hhq9 => exact rfl); (case Fq9 => k_asm); (case Nq9 => k_asm); (case mq9 => k_mem); (case Sq9 => assumption); (case bq9 => assumption)); (intro _ _ _ _ _ _ l1q9 _); (try k_lt l1q9))) <;> walk_at "hide9a")
  k_with "call builtin:len cons nil" => (k_here; (with_reducible show wpAny _ _ (call (Value.builtin _) [Value.ref _]) _ _ _); k_dflt (first | (refine' SG.len_set (knd := PySem.strKind _ _) ?Nq9 ?mq9 ?Gq9 ?_; (case Nq9 => k_asm); (case Gq9 => assumption); (case mq9 => exact List.mem_cons_self)) | (refine' len_strsL ?Nq9 ?mq9 ?Sq9 ?bq9 ?_; (case Nq9 => k_asm); (case mq9 => k_mem); (case Sq9 => assumption); (case bq9 => assumption))))
  k_with "compareOp In str ref" => (k_here; k_dflt (refine' in_strsL ?Nq9 ?mq9 ?Sq9 ?nq9 ?_; (case Nq9 => k_asm); (case mq9 => k_mem); (case Sq9 => assumption); (case nq9 => assumption)))
  k_with "exec For Name Tuple cons nil" => (k_here; refine wpAny_For ?_ (by intro _; with_unfolding_all rfl))
  k_with "compareOp NotEq" => (refine of_hold ?_)
  k_with "compareOp Eq" => (refine of_hold ?_)
  exact True.intro
set_option maxHeartbeats 8000000 in
theorem law_test : PySem.Challenge.rw_rg0118_01.Holds := rgTop (by
  k_go0
  all_goals try k_fold
  rename World => w
  rename Shared => s
  obtain ⟨vsE, oX, nX, hSE, SE, hX0, hXc, hXd⟩ : Ex3 fun (vsE : List Value) (oX : Obj) (nX : Nat) => And5 (StrsAre vsE ENDS) (SomeSrc w 429 vsE []) (s.heap.get? 429 = some oX) (oX.cls = .type "list") (oX.data = .seq vsE.toArray nX) := ⟨_, _, _, .cons _ _ (.cons _ _ (.cons _ _ (.cons _ _ (.cons _ _ (.cons _ _ (.cons _ _ .nil)))))), .inr fun h X => ⟨_, X _ _ (by k_is), rfl, _, rfl⟩, ‹(rgTop.heap_1 w.params).In s.heap› _ _ (by k_is), rfl, rfl⟩
  refine cut_execs 3 (fun s' => Ex17 fun (urn : Nat) (c : Nat) (o : Obj) (oc1 : Obj) (oc2 : Obj) (ys : List Value) (ns : List Int) (n : Nat) (k : Int) (t : Tok) (T0 : Tm) (vp : Value) (tl : Led) (hh : Heap) (tk : Nat) (dr : Drawn) (m' : Str → Option Value) => And18 (s' = { s with heap := hh, toks := tk, drawn := dr }) (Fr s.heap s.heap.objs.size hh m') (m' (Str.ofString "urn") = some (.ref urn)) (m' (Str.ofString "pattern") = some vp) (News s.heap s.heap.objs.size hh ((urn, o) :: (c, W.listOf ys.toArray n) :: (tl ++ [(s.heap.objs.size + 1 + 1, oc1), (s.heap.objs.size + 1, oc2)]))) (Obj.IsDictOf (strKind PySem.Challenge.rw_rg0118_01.row.prog w) o [(Str.ofString "cells", Value.ref c), (Str.ofString "k", Value.int k t)]) (((urn : Addr) == sysModules) = false) (IntsAre ys ns) (ns.length ≤ 30) (0 ≤ k) (k ≤ 3) (oc1.data = .cell none) (oc2.data = .cell none) (Rel tl vp T0) (IsPat T0) (@LT.lt Nat _ (s.heap.objs.size + 1 + 1) urn) (@Ne Nat c urn) (∀ p ∈ tl, @LT.lt Nat _ urn p.1)) ?_ ?_
  · show wpAny _ _ (execs [_, _, _] _) _ _ _
    --[A
    ((try k_fold); k_steps)
    rename_i zi oc1 oc2 zl zr zx _ _ _ _ _ _ urn h1 o0 lo hd0 lu D1 ws1 h2 hI1 hC1 hL1 l1 hkl1 hkl2 g1 hI hL c h3 tk1 o1 h4 o hd h5 F N _ _
    obtain ⟨ns, hI, hl30⟩ : ∃ ns, IntsAre ys ns ∧ ns.length ≤ 30 := ⟨_, hI, by rw [List.length_map, List.length_take]; exact Nat.min_le_left _ _⟩
    obtain ⟨t0, hd⟩ : ∃ t, Obj.IsDictOf (strKind PySem.Challenge.rw_rg0118_01.row.prog w) o [(Str.ofString "cells", Value.ref c), (Str.ofString "k", Value.int 0 t)] := ⟨_, hd⟩
    obtain ⟨BASE, hB⟩ : ∃ BASE : Led, BASE = [(s.heap.objs.size + 1 + 1, oc1), (s.heap.objs.size + 1, oc2)] := ⟨_, rfl⟩
    have hBu : ∀ p ∈ BASE, p.1 ≠ urn := by rw [hB]; exact fcons (Nat.ne_of_lt lu.1) (fcons (Nat.ne_of_lt lu.2) (fun _ h => nomatch h))
    have hcu : @Ne Nat c urn := Ne.symm o1.2.1
    have N1 := News_sub (news' := (urn, o) :: (c, W.listOf ys.toArray ys.length) :: BASE) N (by rw [hB]; (k_extra "sub9"))
    clear N hI1 hC1 hL1 l1 hkl1 hkl2 hL o1 hd0 zx
    show wpAny _ _ (call (Value.ref 443) _) _ _ _
    (k_here; (with_reducible show wpAny _ _ (call (Value.ref 443) _) _ _ _); k_dflt (refine' Fn.useK ?kC ?kB ?kF ?kX ?kN ?kT ?kk ?kd ?ku ?_; (case kB => k_asm); (case kF => k_asm); (case kX => k_asm); (case kN => k_asm); (case kT => k_asm); (case kk => first | exact rfl | assumption); (case kC => exact end_spec w urn c 429 o ys ns 0 t0 vsE ENDS BASE _ hd lo hI hl30 (by omega) (by omega) (SE.mono fun _ h => nomatch h) hSE (by decide) (by decide) hcu hBu); (case kd => ktr_room); (case ku => ktr_units)); (intro KQ9 hKQ9 r9 news9 h9 tk9 dr9 F9 N9 P9); (obtain ⟨o', t', D', x', t3', e1, hd', e2, hx', hl'⟩ := P9); (replace e1 := Eq.symm e1); (subst e1); (try subst e2); (refine hKQ9 _ _ _ _ ?_); (clear hKQ9 KQ9); (try dsimp only))
    ((try k_fold); k_steps)
    rename_i DF hF lF hF2 FF NF _ _
    obtain ⟨tF, NF⟩ : ∃ tF, News _ _ hF2 ((DF, tupO [.str (Str.ofString "f") tF, .ref D']) :: (D', tupO [.str x' t3']) :: (urn, o') :: (c, W.listOf ys.toArray ys.length) :: BASE) := ⟨_, NF⟩
    obtain ⟨tl, htl⟩ : ∃ tl : Led, tl = [(DF, tupO [.str (Str.ofString "f") tF, .ref D']), (D', tupO [.str x' t3'])] := ⟨_, rfl⟩
    have hRel : Rel tl (.ref DF) (.f x') := by rw [htl]; exact .f (.head _) (.tail _ (.head _))
    have htu : ∀ p ∈ tl, @LT.lt Nat _ urn p.1 := by rw [htl]; exact fcons lF.2.1 (fcons hl' (fun _ h => nomatch h))
    have hoff : ∀ p ∈ tl ++ BASE, p.1 ≠ urn := fapp (fun p hp => Nat.ne_of_gt (htu p hp)) hBu
    have N2 := News_sub (news' := (urn, o') :: (c, W.listOf ys.toArray ys.length) :: (tl ++ BASE)) NF (by rw [htl]; (k_extra "sub9"))
    clear NF N1 lF hl'
    show wpAny _ _ (call (Value.ref 436) _) _ _ _
    (k_here; (with_reducible show wpAny _ _ (call (Value.ref 436) _) _ _ _); k_dflt (refine' Fn.useK ?kC ?kB ?kF ?kX ?kN ?kT ?kk ?kd ?ku ?_; (case kB => k_asm); (case kF => k_asm); (case kX => k_asm); (case kN => k_asm); (case kT => k_asm); (case kk => first | exact rfl | assumption); (case kC => exact lot_spec w urn c o' ys ns (0 + 1) 3 t' _ (tl ++ BASE) _ hd' lo hI hl30 (by omega) (by omega) (by omega) (by omega) hcu hoff); (case kd => ktr_room); (case ku => ktr_units)); (intro KQ9 hKQ9 r9 news9 h9 tk9 dr9 F9 N9 P9); (obtain ⟨o2, t2, v2, t32, e1, hd2, e2, hv1, hv2⟩ := P9); (replace e1 := Eq.symm e1); (subst e1); (try subst e2); (refine hKQ9 _ _ _ _ ?_); (clear hKQ9 KQ9); (try dsimp only))
    clear N2 hd'
    ((try k_fold); k_steps)
    · show wpAny _ _ (call (Value.ref 443) _) _ _ _
      (k_here; (with_reducible show wpAny _ _ (call (Value.ref 443) _) _ _ _); k_dflt (refine' Fn.useK ?kC ?kB ?kF ?kX ?kN ?kT ?kk ?kd ?ku ?_; (case kB => k_asm); (case kF => k_asm); (case kX => k_asm); (case kN => k_asm); (case kT => k_asm); (case kk => first | exact rfl | assumption); (case kC => exact end_spec w urn c 429 o2 ys ns (0 + 1 + 1) t2 vsE ENDS (tl ++ BASE) _ hd2 lo hI hl30 (by omega) (by omega) (SE.mono fun _ h => nomatch h) hSE (by decide) (by decide) hcu hoff); (case kd => ktr_room); (case ku => ktr_units)); (intro KQ9 hKQ9 r9 news9 h9 tk9 dr9 F9 N9 P9); (obtain ⟨o3, t3, D3, y3, ty3, e1, hd3, e2, hy3, hl3⟩ := P9); (replace e1 := Eq.symm e1); (subst e1); (try subst e2); (refine hKQ9 _ _ _ _ ?_); (clear hKQ9 KQ9); (try dsimp only))
      ((try k_fold); k_steps)
      rename_i D4 h41 l4 D5 h51 l5 h6 F6 N6
      obtain ⟨tg, tf2, N6⟩ : ∃ tg tf2, News _ _ h6 ((D5, tupO [.str (Str.ofString "g") tg, .ref DF, .ref D4]) :: (D4, tupO [.str (Str.ofString "f") tf2, .ref D3]) :: (D3, tupO [.str y3 ty3]) :: (urn, o3) :: (c, W.listOf ys.toArray ys.length) :: (tl ++ BASE)) := ⟨_, _, N6⟩
      have hm1 : (DF, tupO [.str (Str.ofString "f") tF, .ref D']) ∈ tl := by rw [htl]; exact .head _
      have hm2 : (D', tupO [.str x' t3']) ∈ tl := by rw [htl]; exact .tail _ (.head _)
      refine ⟨urn, c, o3, oc1, oc2, ys, ns, _, _, t3, _, _, [(D5, tupO [.str (Str.ofString "g") tg, .ref DF, .ref D4]), (D4, tupO [.str (Str.ofString "f") tf2, .ref D3]), (D3, tupO [.str y3 ty3])] ++ tl, _, _, _, _, rfl, F6, rfl, rfl, News_sub N6 (by rw [← hB]; (k_extra "sub9")), hd3, lo, hI, hl30, by omega, by omega, zl, zr, .gff (.head _) (by k_mem) (by k_mem) (.tail _ (.head _)) (.tail _ (.tail _ (.head _))), .gff hx' hy3, lu.1, hcu, ?_⟩
      exact fapp (fcons l5.2.2.1 (fcons l4.2.1 (fcons hl3 (fun _ h => nomatch h)))) htu
    · exact ⟨urn, c, o2, oc1, oc2, ys, ns, _, _, t2, _, _, tl, _, _, _, _, rfl, F9, rfl, rfl, by rw [← hB]; exact N9, hd2, lo, hI, hl30, by omega, by omega, zl, zr, hRel, .f hx', lu.1, hcu, htu⟩
    --]A
  rintro s' ⟨urn, c, o, oc1, oc2, ys, ns, n, k, t, T0, vp, tl, hh, tk, dr, m', rfl, F, e1, e2, N, hd, lo, hI, hl30, hk0, hk3, zl, zr, hR0, hP0, lu, hcu, htu⟩
  show wpAny _ _ (execs (_ :: _) _) _ _ _
  refine cut_execs 2 (fun s' => Ex3 fun (urn : Nat) (c : Nat) (sa : Nat) => Ex17 fun (o : Obj) (oc1 : Obj) (oc2 : Obj) (ys : List Value) (vsS : List Value) (ns : List Int) (n : Nat) (nS : Nat) (k : Int) (t : Tok) (T0 : Tm) (vp : Value) (tl : Led) (hh : Heap) (tk : Nat) (dr : Drawn) (m' : Str → Option Value) => And21 (s' = { s with heap := hh, toks := tk, drawn := dr }) (Fr s.heap s.heap.objs.size hh m') (m' (Str.ofString "urn") = some (.ref urn)) (m' (Str.ofString "pattern") = some vp) (m' (Str.ofString "some") = some (.ref sa)) (News s.heap s.heap.objs.size hh ((urn, o) :: (c, W.listOf ys.toArray n) :: (tl ++ [(s.heap.objs.size + 1 + 1, oc1), (s.heap.objs.size + 1, oc2)]))) (Obj.IsDictOf (strKind PySem.Challenge.rw_rg0118_01.row.prog w) o [(Str.ofString "cells", Value.ref c), (Str.ofString "k", Value.int k t)]) (((urn : Addr) == sysModules) = false) (IntsAre ys ns) (ns.length ≤ 30) (0 ≤ k) (k ≤ 3) (oc1.data = .cell none) (oc2.data = .cell none) (Rel tl vp T0) (IsPat T0) ((sa, W.listOf vsS.toArray nS) ∈ tl) (StrsAre vsS (SOME T0)) (@LT.lt Nat _ (s.heap.objs.size + 1 + 1) urn) (@Ne Nat c urn) ((∀ p ∈ tl, @LT.lt Nat _ urn p.1))) ?_ ?_
  · show wpAny _ _ (execs [_, _] _) _ _ _
    --[B
    ((try k_fold); k_steps)
    show wpAny _ _ (call (Value.ref 455) _) _ _ _
    obtain ⟨G, hG, N1⟩ := News_letter N
    have hsz := T0.sz_le
    have hsh0 : T0.short := short_of_ends hP0.ends
    have hRG : Rel G vp T0 := hR0.mono (by rw [hG]; (k_extra "sub9"))
    (k_here; (with_reducible show wpAny _ _ (call (Value.ref 455) _) _ _ _); k_dflt (refine' Fn.useK ?kC ?kB ?kF ?kX ?kN ?kT ?kk ?kd ?ku ?_; (case kB => k_asm); (case kF => k_asm); (case kX => k_asm); (case kN => k_asm); (case kT => k_asm); (case kk => first | exact rfl | assumption); (case kC => exact lparts_spec w T0 vp G hRG); (case kd => ktr_room); (case ku => ktr_units)); (intro KQ9 hKQ9 r9 news9 h9 tk9 dr9 F9 N9 P9); (obtain ⟨tl9, l9, its9, n9, e1, e2, hP9, hx9, hy9, hz9⟩ := P9); (replace e1 := Eq.symm e1); (subst e1); (try subst e2); (refine hKQ9 _ _ _ _ ?_); (clear hKQ9 KQ9); (try dsimp only))
    have hS5 : T0.subs.length ≤ 5 := by cases T0 <;> exact Nat.le_of_ble_eq_true rfl
    have hlen9 : its9.toList.length = T0.subs.length := Paired.length hP9
    refine ⟨l9, its9, n9, (l9, W.listOf its9 n9) :: (tl9 ++ G), fun j ys nw => nw = (l9, W.listOf its9 n9) :: (tl9 ++ G) ∧ StrsAre ys (((T0.subs.take j).filter Tm.isVar).map Tm.op) ∧ ys.length ≤ j, rfl, F9, N9, List.mem_cons_self, by rw [← Array.length_toList]; omega, ⟨rfl, .nil, Nat.le_refl _⟩, fun j ys nw h => h.2.2, ?Bt, ?Be⟩
    case Bt =>
      rintro j v1 ys1 nw oI I C D' hh' tk' dr' mC E' hj ⟨rfl, hys, hyl⟩ hsub V off hit
      obtain ⟨T1, hT1, hRv⟩ := Paired.get hP9 (i := j) (a := v1) (by simpa using hj)
      obtain ⟨a5, t5, kv5, rfl, hb5, hks5, hkl5⟩ := hRv.open
      have hsh : Short T1.op := hsh0.op (List.mem_of_getElem? hT1)
      refine cv_one V rfl rfl rfl fun h4 tk4 V4 => ?_
      obtain ⟨oC, hn, N4⟩ := V4.led
      have F4 := V4.F
      ((try k_fold); k_steps)
      · rename_i hA t8 k8 FA NA hv
        have hv : T1.isVar = true := by rw [Tm.isVar_op]; exact hv
        refine ⟨(l9, W.listOf its9 n9) :: (tl9 ++ G), _, _, _, _, rfl, V4.back hn FA NA (by k_mem) (by k_mem) (by (k_extra "sub9")) V4.offC V4.offD, fun _ h => h, off, rfl, ?_, by rw [List.length_append]; exact Nat.succ_le_succ hyl⟩
        rw [List.take_add_one, hT1, List.filter_append, List.map_append]
        refine StrsAre_append hys ?_
        simp only [Option.toList, List.filter_cons, hv, if_true, List.filter_nil, List.map_cons, List.map_nil]
        exact .cons _ _ .nil
      · rename_i hA t8 k8 FA NA hv
        have hv : T1.isVar = false := by rw [Tm.isVar_op]; exact hv
        refine ⟨(l9, W.listOf its9 n9) :: (tl9 ++ G), _, _, _, _, rfl, V4.back hn FA NA (by k_mem) (by k_mem) (by (k_extra "sub9")) V4.offC V4.offD, fun _ h => h, off, rfl, ?_, Nat.le_succ_of_le hyl⟩
        rw [List.take_add_one, hT1, List.filter_append, List.map_append]
        simp only [Option.toList, List.filter_cons, hv, Bool.false_eq_true, if_false, List.filter_nil, List.map_nil, List.append_nil]
        exact hys
    case Be =>
      rintro Dc ys1 nw hc tkc drc Fc Nc offc ltc hsub ⟨rfl, hys, hyl⟩
      rw [List.take_of_length_le (by rw [← hlen9, Array.length_toList]; exact Nat.le_refl _)] at hys
      have hl2 : ((T0.subs.filter Tm.isVar).map Tm.op).length ≤ 2 := by rw [List.length_map]; exact hP0.vars_len
      clear offc hsub
      ((try k_fold); k_steps)
      show wpAny _ _ (eval _ _) _ _ _
      rename_i q1 q2 S8 q4 oS8 q5 q6 q7 q8 D8 vs8 ss8 e8 SS8 PS8 RS8 l8 h8 F8 N8
      rw [ddv_dd hys hl2] at PS8
      have hss : ss8 = T0.vars := sort_unique PS8 (dd_length hl2) RS8
      subst hss
      refine compK_top F8 rfl rfl (by decide) rfl (by decide) (fun _ => by with_unfolding_all rfl) (fun _ => rfl) ?_
      ((try k_fold); k_steps)
      obtain ⟨G8, hG8⟩ : ∃ G8 : Led, G8 = (D8, W.listOf vs8.toArray e8) :: G := ⟨_, rfl⟩
      have N8 := News_sub (news' := G8) N8 (by rw [hG8]; (k_extra "sub9"))
      have lG8 : ∀ p ∈ G, @LT.lt Nat _ p.1 D8 := fun p hp => l8.2.2.2.mem p (List.mem_append_right _ hp)
      refine ⟨429, oX, nX, vsE, G8, [], fun j ys nw => nw = G8 ∧ StrsAre ys ((ENDS.take j).filter fun x => !Mine.isVar x) ∧ ys.length ≤ j, rfl, hX0, hXc, hXd, F8, N8, (fun _ h => nomatch h), by rw [StrsAre.length hSE]; decide, ⟨rfl, .nil, Nat.le_refl _⟩, (fun j ys nw h => h.2.2), ?Ct, ?Ce⟩
      case Ct =>
        rintro j v1 ys2 nw zl2 C D' hh' tk' dr' mC E' hj ⟨rfl, hys2, hyl2⟩ hsub V off
        obtain ⟨x, tx, rfl, hxj⟩ := strs_at hSE hj
        have hsh : Short x := ends_short (List.mem_of_getElem? hxj)
        obtain ⟨oC, hn, N4⟩ := V.led
        have F4 := V.F
        ((try k_fold); k_steps)
        · rename_i hA t8 k8 FA NA hv
          have hv : (!Mine.isVar x) = true := hv
          refine ⟨nw, _, _, _, _, rfl, V.back hn FA NA (by k_mem) (by k_mem) (by (k_extra "sub9")) V.offC V.offD, (fun _ h => nomatch h), off, rfl, ?_, by rw [List.length_append]; exact Nat.succ_le_succ hyl2⟩
          rw [List.take_add_one, hxj, List.filter_append]
          refine StrsAre_append hys2 ?_
          simp only [Option.toList, List.filter_cons, hv, if_true, List.filter_nil]
          exact .cons _ _ .nil
        · rename_i hA t8 k8 FA NA hv
          have hv : (!Mine.isVar x) = false := hv
          refine ⟨nw, _, _, _, _, rfl, V.back hn FA NA (by k_mem) (by k_mem) (by (k_extra "sub9")) V.offC V.offD, (fun _ h => nomatch h), off, rfl, ?_, Nat.le_succ_of_le hyl2⟩
          rw [List.take_add_one, hxj, List.filter_append]
          simp only [Option.toList, List.filter_cons, hv, Bool.false_eq_true, if_false, List.filter_nil, List.append_nil]
          exact hys2
      case Ce =>
        rintro Dc2 ys2 nw hc tkc drc Fc Nc offc ltc hsub ⟨rfl, hys2, hyl2⟩
        rw [List.take_of_length_le (by rw [StrsAre.length hSE]; exact Nat.le_refl _), ends_consts] at hys2
        rw [hG8] at Nc
        have hz1 : vs8.length ≤ 1000 := by rw [StrsAre.length SS8]; exact Nat.le_trans (vars_length _ hP0.vars_len) (Nat.le_of_ble_eq_true rfl)
        have hz2 : ys2.length ≤ 1000 := by rw [StrsAre.length hys2]; exact Nat.le_of_ble_eq_true rfl
        ((try k_fold); k_steps)
        rename_i DS hS0 lS hS1 FS NS
        have luS : @LT.lt Nat _ urn DS := lS.2.2.mem (urn, o) (by rw [hG]; exact .head _)
        exact ⟨urn, c, DS, o, oc1, oc2, ys, vs8 ++ ys2, ns, n, 0, k, t, T0, vp, (DS, W.listOf (vs8 ++ ys2).toArray 0) :: tl, _, _, _, _, rfl, FS, e1, e2, rfl, News_sub NS (by rw [hG]; (k_extra "sub9")), hd, lo, hI, hl30, hk0, hk3, zl, zr, hR0.mono fun p hp => .tail _ hp, hP0, .head _, StrsAre_append SS8 hys2, lu, hcu, fcons luS htu⟩
    --]B
  clear hR0 hP0 htu N hd F e1 e2
  rintro s' ⟨urn, c, sa, o, oc1, oc2, ys, vsS, ns, n, nS, k, t, T0, vp, tl, hh, tk, dr, m', rfl, F, e1, e2, e3, N, hd, lo, hI, hl30, hk0, hk3, zl, zr, hR0, hP0, hsa, hSS, lu, hcu, htu⟩
  show wpAny _ _ (execs (_ :: _) _) _ _ _
  refine cut_execs 2 (fun s' => Ex13 fun (oc1 : Obj) (oc2 : Obj) (T0 : Tm) (T1 : Tm) (T2 : Tm) (vp : Value) (v1 : Value) (v2 : Value) (R : Led) (hh : Heap) (tk : Nat) (dr : Drawn) (m' : Str → Option Value) => And17 (s' = { s with heap := hh, toks := tk, drawn := dr }) (Fr s.heap s.heap.objs.size hh m') (m' (Str.ofString "pattern") = some vp) (m' (Str.ofString "one") = some v1) (m' (Str.ofString "other") = some v2) (News s.heap s.heap.objs.size hh ((s.heap.objs.size + 1 + 1, oc1) :: (s.heap.objs.size + 1, oc2) :: R)) (oc1.data = .cell none) (oc2.data = .cell none) (Rel R vp T0) (Rel R v1 T1) (Rel R v2 T2) (IsPat T0) (T1.isSide = true) (T2.isSide = true) (∀ x ∈ T1.ends, x ∈ SOME T0) (∀ x ∈ T2.ends, x ∈ SOME T0) (∀ p ∈ R, ∃ vs, p.2 = tupO vs)) ?_ ?_
  · show wpAny _ _ (execs [_, _] _) _ _ _
    --[C
    ((try k_fold); k_steps)
    show wpAny _ _ (call (Value.ref 450) _) _ _ _
    obtain ⟨Z, hZ⟩ : ∃ Z : Led, Z = tl ++ [(s.heap.objs.size + 1 + 1, oc1), (s.heap.objs.size + 1, oc2)] := ⟨_, rfl⟩
    rw [← hZ] at N
    have hZu : ∀ p ∈ Z, p.1 ≠ urn := by rw [hZ]; exact fapp (fun p hp => Nat.ne_of_gt (htu p hp)) (fcons (Nat.ne_of_lt lu) (fcons (Nat.ne_of_lt (Nat.lt_of_succ_lt lu)) (fun _ h => nomatch h)))
    have hc1 : (s.heap.objs.size + 1 + 1, oc1) ∈ Z := by rw [hZ]; k_mem
    have hc2 : (s.heap.objs.size + 1, oc2) ∈ Z := by rw [hZ]; k_mem
    have SSZ : SomeSrc w sa vsS Z := .inl ⟨nS, by rw [hZ]; exact List.mem_append_left _ hsa⟩
    have hsl := some_len hP0
    obtain ⟨tm0, hs0, hL0, ht0⟩ := hR0.lean
    have hs0 : ∀ p ∈ tm0, p ∈ Z := fun p hp => by rw [hZ]; exact List.mem_append_left _ ((hs0 p hp))
    (k_here; (with_reducible show wpAny _ _ (call (Value.ref 450) _) _ _ _); k_dflt (refine' Fn.useK ?kC ?kB ?kF ?kX ?kN ?kT ?kk ?kd ?ku ?_; (case kB => k_asm); (case kF => k_asm); (case kX => k_asm); (case kN => k_asm); (case kT => k_asm); (case kk => first | exact rfl | assumption); (case kC => exact side_spec w urn c sa o ys ns k t vsS (SOME T0) Z n hd lo hI hl30 hk0 (by omega) SSZ hSS hsl.1 hsl.2 hcu hZu); (case kd => ktr_room); (case ku => ktr_units)); (intro KQ9 hKQ9 r9 news9 h9 tk9 dr9 F9 N9 P9); (obtain ⟨o1, t1, tl1, T1, k1, e1, hd1, hR1, hs1, hE1, hu1, hk1, hk1'⟩ := P9); (replace e1 := Eq.symm e1); (subst e1); (try subst e2); (refine hKQ9 _ _ _ _ ?_); (clear hKQ9 KQ9); (try dsimp only))
    obtain ⟨tm1, hs1s, hL1, ht1⟩ := hR1.lean
    have hoff1 : ∀ p ∈ tl1 ++ Z, p.1 ≠ urn := fapp hu1 hZu
    clear N
    ((try k_fold); k_steps)
    show wpAny _ _ (call (Value.ref 436) _) _ _ _
    (k_here; (with_reducible show wpAny _ _ (call (Value.ref 436) _) _ _ _); k_dflt (refine' Fn.useK ?kC ?kB ?kF ?kX ?kN ?kT ?kk ?kd ?ku ?_; (case kB => k_asm); (case kF => k_asm); (case kX => k_asm); (case kN => k_asm); (case kT => k_asm); (case kk => first | exact rfl | assumption); (case kC => exact lot_spec w urn c o1 ys ns k1 4 t1 _ (tl1 ++ Z) n hd1 lo hI hl30 (by omega) (by omega) (by omega) (by omega) hcu hoff1); (case kd => ktr_room); (case ku => ktr_units)); (intro KQ9 hKQ9 r9 news9 h9 tk9 dr9 F9 N9 P9); (obtain ⟨o2, t2, v2, t32, e1, hd2, e2, hv1, hv2⟩ := P9); (replace e1 := Eq.symm e1); (subst e1); (try subst e2); (refine hKQ9 _ _ _ _ ?_); (clear hKQ9 KQ9); (try dsimp only))
    ((try k_fold); k_steps)
    · rename Fr _ _ _ _ => FX
      rename News _ _ _ _ => NX
      refine ⟨oc1, oc2, T0, T1, T1, vp, _, _, tm1 ++ tm0, _, _, _, _, rfl, FX, e2, rfl, rfl, News_sub NX ?_, zl, zr, hL0.mono fun p hp => List.mem_append_right _ hp, hL1.mono fun p hp => List.mem_append_left _ hp, hL1.mono fun p hp => List.mem_append_left _ hp, hP0, hs1, hs1, hE1, hE1, fapp ht1 ht0⟩
      exact fcons (.tail _ (.tail _ (List.mem_append_right _ hc1))) (fcons (.tail _ (.tail _ (List.mem_append_right _ hc2))) (fapp (fun p hp => .tail _ (.tail _ (List.mem_append_left _ ((hs1s p hp))))) (fun p hp => .tail _ (.tail _ (List.mem_append_right _ ((hs0 p hp)))))))
    · show wpAny _ _ (call (Value.ref 450) _) _ _ _
      (k_here; (with_reducible show wpAny _ _ (call (Value.ref 450) _) _ _ _); k_dflt (refine' Fn.useK ?kC ?kB ?kF ?kX ?kN ?kT ?kk ?kd ?ku ?_; (case kB => k_asm); (case kF => k_asm); (case kX => k_asm); (case kN => k_asm); (case kT => k_asm); (case kk => first | exact rfl | assumption); (case kC => exact side_spec w urn c sa o2 ys ns (k1 + 1) t2 vsS (SOME T0) (tl1 ++ Z) n hd2 lo hI hl30 (by omega) (by omega) (SSZ.mono fun p hp => List.mem_append_right _ hp) hSS hsl.1 hsl.2 hcu hoff1); (case kd => ktr_room); (case ku => ktr_units)); (intro KQ9 hKQ9 r9 news9 h9 tk9 dr9 F9 N9 P9); (obtain ⟨o3, t3, tl2, T2, k2, e1, hd3, hR2, hs2, hE2, hu2, hk2, hk2'⟩ := P9); (replace e1 := Eq.symm e1); (subst e1); (try subst e2); (refine hKQ9 _ _ _ _ ?_); (clear hKQ9 KQ9); (try dsimp only))
      obtain ⟨tm2, hs2s, hL2, ht2⟩ := hR2.lean
      ((try k_fold); k_steps)
      rename Fr _ _ _ _ => FX
      rename News _ _ _ _ => NX
      refine ⟨oc1, oc2, T0, T1, T2, vp, _, _, tm2 ++ (tm1 ++ tm0), _, _, _, _, rfl, FX, e2, rfl, rfl, News_sub NX ?_, zl, zr, hL0.mono fun p hp => List.mem_append_right _ ((List.mem_append_right _ hp)), hL1.mono fun p hp => List.mem_append_right _ ((List.mem_append_left _ hp)), hL2.mono fun p hp => List.mem_append_left _ hp, hP0, hs1, hs2, hE1, hE2, fapp ht2 (fapp ht1 ht0)⟩
      have inr : ∀ p ∈ tl1 ++ Z, p ∈ (urn, o3) :: (c, W.listOf ys.toArray n) :: (tl2 ++ (tl1 ++ Z)) := fun p hp => .tail _ (.tail _ (List.mem_append_right _ hp))
      exact fcons (inr _ (List.mem_append_right _ hc1)) (fcons (inr _ (List.mem_append_right _ hc2)) (fapp (fun p hp => .tail _ (.tail _ (List.mem_append_left _ ((hs2s p hp))))) (fapp (fun p hp => inr _ (List.mem_append_left _ ((hs1s p hp)))) (fun p hp => inr _ (List.mem_append_right _ ((hs0 p hp)))))))
    --]C
  clear hR0 hP0 htu N hd F e1 e2 e3 hsa hSS hI hl30 hk0 hk3 zl zr lu hcu lo
  rintro s' ⟨oc1, oc2, T0, T1, T2, vp, v1, v2, R, hh, tk, dr, m', rfl, F, e1, e2, e3, N, zl, zr, hR0, hR1, hR2, hP0, hs1, hs2, hE1, hE2, hRt⟩
  show wpAny _ _ (execs (_ :: _) _) _ _ _
  have c1 : ∀ p ∈ R, p.1 ≠ s.heap.objs.size + 1 + 1 := fun p hp => off_cell N (.tail _ (.tail _ hp)) (.head _) zl (hRt p hp)
  have c2 : ∀ p ∈ R, p.1 ≠ s.heap.objs.size + 1 := fun p hp => off_cell N (.tail _ (.tail _ hp)) (.tail _ (.head _)) zr (hRt p hp)
  refine cut_execs 3 (fun s' => Ex4 fun (oc1 : Obj) (oc2 : Obj) (ot : Obj) (tb : Nat) => Ex17 fun (ov : Nat) (ea : Nat) (D : Nat) (T0 : Tm) (T1 : Tm) (T2 : Tm) (vp : Value) (v1 : Value) (v2 : Value) (r1 : Value) (r2 : Value) (kvs : List (Str × Value)) (R : Led) (hh : Heap) (tk : Nat) (dr : Drawn) (m' : Str → Option Value) => And12 (s' = { s with heap := hh, toks := tk, drawn := dr }) (Fr s.heap s.heap.objs.size hh m') (m' (Str.ofString "pattern") = some vp) (m' (Str.ofString "one") = some v1) (m' (Str.ofString "other") = some v2) (m' (Str.ofString "overlap") = some (.ref ov)) (m' (Str.ofString "told") = some (.ref D)) (News s.heap s.heap.objs.size hh ((s.heap.objs.size + 1 + 1, oc1) :: (s.heap.objs.size + 1, oc2) :: (tb, ot) :: R)) (oc1.data = .cell none) (oc2.data = .cell (some (.ref tb))) (Rel R vp T0) (And16 (Rel R v1 T1) (Rel R v2 T2) (IsPat T0) (T1.isSide = true) (T2.isSide = true) ((∀ x ∈ T1.ends, x ∈ SOME T0)) ((∀ x ∈ T2.ends, x ∈ SOME T0)) ((∀ p ∈ R, ∃ vs, p.2 = tupO vs)) ((ov, tupO [.ref ea, vp, v1, v2]) ∈ R) ((D, tupO [r1, r2]) ∈ R) (Rel R r1 (T1.fill (sig T0 T1 T2))) (Rel R r2 (T2.fill (sig T0 T1 T2))) (((tb : Addr) == sysModules) = false) (ot.IsDictOf (PySem.strKind PySem.Challenge.rw_rg0118_01.row.prog w) kvs) (TGood (sig T0 T1 T2) kvs) (kvs.length ≤ 4))) ?_ ?_
  · show wpAny _ _ (execs [_, _, _] _) _ _ _
    --[D
    ((try k_fold); k_steps)
    rename_i De g1 le Dov g2 lov dt g3 ot lot hst fst hit fit ldt Dp g4 lp g5 g6 g7 oc2n F1 N1 hcn _ _
    clear fst hit fit lp le lov
    show wpAny _ _ (call (Value.ref 200) _) _ _ _
    obtain ⟨G, hG, N1⟩ := News_letter N1
    have rG : ∀ p ∈ R, p ∈ G := by rw [hG]; (k_extra "sub9")
    have hovG : (Dov, tupO [.ref De, vp, v1, v2]) ∈ G := by rw [hG]; k_mem
    have hdtG : (dt, ot) ∈ G := by rw [hG]; k_mem
    have hc1G : (s.heap.objs.size + 1 + 1, oc1) ∈ G := by rw [hG]; k_mem
    have hc2G : (s.heap.objs.size + 1, oc2n) ∈ G := by rw [hG]; k_mem
    obtain ⟨hK, hSig⟩ := sig_spec hP0 hE1 hE2
    have hS1 := sigOk_of hP0 hSig hE1
    have hS2 := sigOk_of hP0 hSig hE2
    (k_here; (with_reducible show wpAny _ _ (call (Value.ref 200) _) _ _ _); k_dflt (refine' Fn.useK ?kC ?kB ?kF ?kX ?kN ?kT ?kk ?kd ?ku ?_; (case kB => k_asm); (case kF => k_asm); (case kX => k_asm); (case kN => k_asm); (case kT => k_asm); (case kk => first | exact rfl | assumption); (case kC => exact grounded_spec w Dov De vp v1 v2 T0 T1 T2 G hovG (hR0.mono rG) (hR1.mono rG) (hR2.mono rG) (short_of_ends hP0.ends) (short_of_ends fun x hx => some_ends hP0 x (hE1 x hx)) (short_of_ends fun x hx => some_ends hP0 x (hE2 x hx)) hP0.vars_len hK); (case kd => ktr_room); (case ku => ktr_units)); (intro KQ9 hKQ9 r9 news9 h9 tk9 dr9 F9 N9 P9); (obtain ⟨tl, D, r1, r2, e1, e2, Q1, Q2, hgt, hD⟩ := P9); (replace e1 := Eq.symm e1); (subst e1); (try subst e2); (refine hKQ9 _ _ _ _ ?_); (clear hKQ9 KQ9); (try dsimp only))
    obtain ⟨G2, hG2, N9⟩ := News_letter N9
    have mD : (D, tupO [r1, r2]) ∈ G2 := by rw [hG2]; exact .head _
    have inG2 : ∀ p ∈ G, p ∈ G2 := by rw [hG2]; exact fun p hp => .tail _ (List.mem_append_right _ hp)
    have hc1G2 := inG2 _ hc1G
    have hc2G2 := inG2 _ hc2G
    have hdtG2 := inG2 _ hdtG
    ((try k_fold); k_steps)
    rename Fr _ _ _ _ => FX
    rename News _ _ _ _ => NX
    show wpAny _ _ (call (Value.ref 460) _) _ _ _
    obtain ⟨tmA, hsA, hLA, htA⟩ := Q1.lean
    obtain ⟨tmB, hsB, hLB, htB⟩ := Q2.lean
    have toG2 : ∀ p ∈ tl ++ G, p ∈ G2 := by rw [hG2]; exact fun p hp => .tail _ hp
    obtain ⟨RR, hRR⟩ : ∃ RR : Led, RR = (D, tupO [r1, r2]) :: (Dov, tupO [.ref De, vp, v1, v2]) :: (tmA ++ (tmB ++ R)) := ⟨_, rfl⟩
    have htt : ∀ p ∈ RR, ∃ vs, p.2 = tupO vs := by rw [hRR]; exact fcons (⟨_, rfl⟩) (fcons (⟨_, rfl⟩) (fapp htA (fapp htB hRt)))
    have hRG : ∀ p ∈ RR, p ∈ G2 := by rw [hRR]; exact fcons mD (fcons (inG2 _ hovG) (fapp (fun p hp => toG2 p (hsA p hp)) (fapp (fun p hp => toG2 p (hsB p hp)) (fun p hp => inG2 p (rG p hp)))))
    have hotn : ∀ vs, ot ≠ tupO vs := fun vs e => by obtain ⟨es, ep, h, _⟩ := hst; have q := h.1; rw [e] at q; exact absurd q (by simp)
    obtain ⟨CC, hCC⟩ : ∃ CC : Led, CC = (s.heap.objs.size + 1 + 1, oc1) :: (s.heap.objs.size + 1, oc2n) :: RR := ⟨_, rfl⟩
    have hCd : ∀ p ∈ CC, p.1 ≠ dt := by rw [hCC]; exact fcons (Nat.ne_of_lt ldt.2.2.1) (fcons (Nat.ne_of_lt ldt.2.2.2.1) (fun p hp => off_tup NX (hRG p hp) hdtG2 hotn (htt p hp)))
    have NY := News_sub (news' := (dt, ot) :: CC) NX (by rw [hCC]; exact fcons hdtG2 (fcons hc1G2 (fcons hc2G2 hRG)))
    have rC : ∀ p ∈ RR, p ∈ CC := by rw [hCC]; exact fun p hp => .tail _ (.tail _ hp)
    have A1 : Rel CC r1 (T1.fill (sig T0 T1 T2)) := hLA.mono fun p hp => rC p (by rw [hRR]; exact .tail _ (.tail _ (List.mem_append_left _ hp)))
    have A2 : Rel CC r2 (T2.fill (sig T0 T1 T2)) := hLB.mono fun p hp => rC p (by rw [hRR]; exact .tail _ (.tail _ (List.mem_append_right _ ((List.mem_append_left _ hp)))))
    have rR : ∀ p ∈ R, p ∈ RR := by rw [hRR]; exact fun p hp => .tail _ (.tail _ (List.mem_append_right _ ((List.mem_append_right _ hp))))
    clear NX Q1 Q2 hgt hD
    have hle1 : T1.ends.length ≤ 2 := by cases T1 <;> exact Nat.le_of_ble_eq_true rfl
    have hle2 : T2.ends.length ≤ 2 := by cases T2 <;> exact Nat.le_of_ble_eq_true rfl
    have z1 := T1.sz_le
    have z2 := T2.sz_le
    (k_here; (with_reducible show wpAny _ _ (call (Value.ref 460) _) _ _ _); k_dflt (refine' Fn.useK ?kC ?kB ?kF ?kX ?kN ?kT ?kk ?kd ?ku ?_; (case kB => k_asm); (case kF => k_asm); (case kX => k_asm); (case kN => k_asm); (case kT => k_asm); (case kk => first | exact rfl | assumption); (case kC => exact GoesC.at (goes_spec w (sig T0 T1 T2) dt lot T1 v1 r1 CC (hR1.mono fun p hp => rC p (rR p hp)) A1 hS1) (fun _ h => h) hCd hst (fun _ h => nomatch h) (by simp; omega)); (case kd => ktr_room); (case ku => ktr_units)); (intro KQ9 hKQ9 r9 news9 h9 tk9 dr9 F9 N9 P9); (obtain ⟨o3, kvs3, e1, hd3, hg3, hn3, e2⟩ := P9); (replace e1 := Eq.symm e1); (subst e1); (try subst e2); (refine hKQ9 _ _ _ _ ?_); (clear hKQ9 KQ9); (try dsimp only))
    have hc2C : (s.heap.objs.size + 1, oc2n) ∈ (dt, o3) :: CC := by rw [hCC]; exact .tail _ (.tail _ (.head _))
    have mD3 : (D, tupO [r1, r2]) ∈ (dt, o3) :: CC := .tail _ (rC _ (by rw [hRR]; exact .head _))
    clear NY
    ((try k_fold); k_steps)
    show wpAny _ _ (call (Value.ref 460) _) _ _ _
    (k_here; (with_reducible show wpAny _ _ (call (Value.ref 460) _) _ _ _); k_dflt (refine' Fn.useK ?kC ?kB ?kF ?kX ?kN ?kT ?kk ?kd ?ku ?_; (case kB => k_asm); (case kF => k_asm); (case kX => k_asm); (case kN => k_asm); (case kT => k_asm); (case kk => first | exact rfl | assumption); (case kC => exact GoesC.at (goes_spec w (sig T0 T1 T2) dt lot T2 v2 r2 CC (hR2.mono fun p hp => rC p (rR p hp)) A2 hS2) (fun _ h => h) hCd hd3 hg3 (by simp at hn3; omega)); (case kd => ktr_room); (case ku => ktr_units)); (intro KQ9 hKQ9 r9 news9 h9 tk9 dr9 F9 N9 P9); (obtain ⟨o4, kvs4, e1, hd4, hg4, hn4, e2⟩ := P9); (replace e1 := Eq.symm e1); (subst e1); (try subst e2); (refine hKQ9 _ _ _ _ ?_); (clear hKQ9 KQ9); (try dsimp only))
    ((try k_fold); k_steps)
    have hovR : (Dov, tupO [.ref De, vp, v1, v2]) ∈ RR := by rw [hRR]; exact .tail _ (.head _)
    have hDR : (D, tupO [r1, r2]) ∈ RR := by rw [hRR]; exact .head _
    exact ⟨oc1, oc2n, o4, dt, Dov, De, D, T0, T1, T2, vp, v1, v2, r1, r2, kvs4, RR, _, _, _, _, rfl, F9, e1, e2, e3, rfl, rfl, News_sub N9 (by rw [hCC]; (k_extra "sub9")), zl, hcn, hR0.mono rR, hR1.mono rR, hR2.mono rR, hP0, hs1, hs2, hE1, hE2, htt, hovR, hDR, hLA.mono fun p hp => by rw [hRR]; exact .tail _ (.tail _ (List.mem_append_left _ hp)), hLB.mono fun p hp => by rw [hRR]; exact .tail _ (.tail _ (List.mem_append_right _ ((List.mem_append_left _ hp)))), lot, hd4, hg4, by simp at hn3; omega⟩
    --]D
  clear hR0 hR1 hR2 hP0 hs1 hs2 hE1 hE2 hRt c1 c2 zl zr N F e1 e2 e3
  rintro s' ⟨oc1, oc2, ot, tb, ov, ea, D, T0, T1, T2, vp, v1, v2, r1, r2, kvs, R, hh, tk, dr, m', rfl, F, e1, e2, e3, e4, e5, N, zl, zr, hR0, hR1, hR2, hP0, hs1, hs2, hE1, hE2, hRt, hov, hD, hA1, hA2, lot, hd, hg, hkl⟩
  show wpAny _ _ (execs (_ :: _) _) _ _ _
  refine cut_execs 3 (fun s' => Ex16 fun (ov : Nat) (ea : Nat) (D : Nat) (T0 : Tm) (T1 : Tm) (T2 : Tm) (vp : Value) (v1 : Value) (v2 : Value) (r1 : Value) (r2 : Value) (R : Led) (hh : Heap) (tk : Nat) (dr : Drawn) (m' : Str → Option Value) => And20 (s' = { s with heap := hh, toks := tk, drawn := dr }) (Fr s.heap s.heap.objs.size hh m') (m' (Str.ofString "one") = some v1) (m' (Str.ofString "other") = some v2) (m' (Str.ofString "overlap") = some (.ref ov)) (m' (Str.ofString "told") = some (.ref D)) (News s.heap s.heap.objs.size hh R) (Rel R vp T0) (Rel R v1 T1) (Rel R v2 T2) (IsPat T0) (T1.isSide = true) (T2.isSide = true) (∀ x ∈ T1.ends, x ∈ SOME T0) (∀ x ∈ T2.ends, x ∈ SOME T0) (∀ p ∈ R, ∃ vs, p.2 = tupO vs) ((ov, tupO [.ref ea, vp, v1, v2]) ∈ R) ((D, tupO [r1, r2]) ∈ R) (Rel R r1 (T1.fill (sig T0 T1 T2))) (Rel R r2 (T2.fill (sig T0 T1 T2)))) ?_ ?_
  · show wpAny _ _ (execs [_, _, _] _) _ _ _
    --[E
    obtain ⟨G, hG, N⟩ := News_letter N
    have hc1G : (s.heap.objs.size + 1 + 1, oc1) ∈ G := by rw [hG]; exact .head _
    have hc2G : (s.heap.objs.size + 1, oc2) ∈ G := by rw [hG]; exact .tail _ (.head _)
    have hotG : (tb, ot) ∈ G := by rw [hG]; exact .tail _ (.tail _ (.head _))
    ((try k_fold); k_steps)
    show wpAny _ _ (exec _ _) _ _ _
    refine exec_comp (by with_unfolding_all rfl) ?_
    refine comp_plainU F rfl rfl (by decide) rfl (by decide) (fun _ => by with_unfolding_all rfl) ?_
    ((try k_fold); k_steps)
    rename_i h1 tk1 DL vsL ssL eL FL NL lL hSL hPL
    have hNd : (kvs.map (·.1)).Nodup := by obtain ⟨_, _, _, _, _, _, h⟩ := hd; exact h
    obtain ⟨hK, hSig⟩ := sig_spec hP0 hE1 hE2
    obtain ⟨hk2, hl2, hlnd, hlv⟩ := leaves_ok hSig hg hNd (vars_length _ hP0.vars_len) hPL
    have hvl : vsL.length = ssL.length := StrsAre.length hSL
    have hl2' : ssL.length ≤ 2 := by simpa using hl2
    have dLG : ∀ p ∈ G, p ∈ (DL, W.listOf vsL.toArray eL) :: G := fun p hp => .tail _ hp
    refine ⟨DL, vsL.toArray, eL, (DL, W.listOf vsL.toArray eL) :: G, fun j ys nw => And3 (nw = (DL, W.listOf vsL.toArray eL) :: G) (StrsAre ys ((ssL.take j).map (lf (sig T0 T1 T2)))) (ys.length ≤ j), rfl, FL, NL, .head _, by rw [List.size_toArray, hvl]; exact Nat.le_trans hl2' (Nat.le_of_ble_eq_true rfl), ⟨rfl, .nil, Nat.le_refl _⟩, fun j ys nw ⟨_, _, h⟩ => h, ?Et, ?Ee⟩
    case Et =>
      rintro j v1 ys1 nw oI I C D' hh' tk' dr' mC E' hj ⟨rfl, hys, hyl⟩ hsub V off hit
      obtain ⟨x, tx, rfl, hxj⟩ := strs_at hSL (by simpa using hj)
      obtain ⟨z, tz, hvx, hzx⟩ := tgood_at hg (hPL.mem_iff.mp (List.mem_of_getElem? hxj))
      refine cv_one V rfl rfl rfl fun h4 tk4 V4 => ?_
      obtain ⟨oC, hn, N4⟩ := V4.led
      have F4 := V4.F
      ((try k_fold); k_steps)
      refine ⟨(DL, W.listOf vsL.toArray eL) :: G, _, _, _, _, rfl, V4, fun _ h => h, off, rfl, ?_, by rw [List.length_append]; exact Nat.succ_le_succ hyl⟩
      rw [List.take_add_one, hxj, List.map_append]
      refine StrsAre_append hys ?_
      simp only [Option.toList, List.map_cons, List.map_nil]
      rw [show lf (sig T0 T1 T2) x = z by simp [lf, hzx]]
      exact .cons _ _ .nil
    case Ee =>
      rintro C DV ys nw h2 tk2 dr2 mC2 V lt2 hsub ⟨rfl, hys, hyl⟩
      rw [List.take_of_length_le (by rw [List.size_toArray, hvl]; exact Nat.le_refl _)] at hys
      refine cv_useL V rfl rfl rfl fun h3 tk3 F3 N3 => ?_
      have N3 := News_sub (news' := (DV, LCg.lst ys) :: G) N3 (fcons (.head _) (fun p hp => .tail _ (.tail _ hp)))
      have hDc : @LT.lt Nat _ (s.heap.objs.size + 1 + 1) DV := lt2 _ (.tail _ hc1G)
      clear V lt2 hsub N FL NL lL hPL hSL dLG hyl F
      ((try k_fold); k_steps)
      show wpAny _ _ (exec _ _) _ _ _
      obtain ⟨G2, hG2, N3⟩ := News_letter N3
      have mLv : (DV, W.listOf ys.toArray ys.length) ∈ G2 := by rw [hG2]; exact .head _
      have gG2 : ∀ p ∈ G, p ∈ G2 := by rw [hG2]; exact fun p hp => .tail _ hp
      have rG2 : ∀ p ∈ R, p ∈ G2 := fun p hp => gG2 p (by rw [hG]; exact .tail _ (.tail _ (.tail _ hp)))
      refine wpAny_Assign_Name ?_ (by with_unfolding_all rfl)
      refine comp_two F3 rfl rfl (by decide) rfl (by decide) (fun _ => by with_unfolding_all rfl) (fun _ _ => by with_unfolding_all rfl) ?_
      ((try k_fold); k_steps)
      rename_i DT hT FT NT lT
      have hKs : Paired (Rel R) [vp, v1, v2] [T0, T1, T2] := .cons hR0 (.cons hR1 (.cons hR2 .nil))
      obtain ⟨BASE, hB, NT⟩ := News_letter NT
      have gB : ∀ p ∈ G2, p ∈ BASE := by rw [hB]; exact fun p hp => .tail _ hp
      have rB : ∀ p ∈ R, p ∈ BASE := fun p hp => gB p (rG2 p hp)
      refine ⟨DT, [vp, v1, v2], BASE, fun j ys nw => Ex1 fun tl2 => And4 (nw = tl2 ++ BASE) (StrsAre ys ((([T0, T1, T2].take j).flatMap Tm.subs).map Tm.op)) (j ≤ 3) (∀ p ∈ tl2, ∀ q ∈ BASE, q.1 < p.1), rfl, FT, NT, by rw [hB]; exact .head _, ⟨[], rfl, .nil, Nat.zero_le _, fun _ h => nomatch h⟩, ?Tt, ?Te⟩
      case Tt =>
        rintro j u1 ys1 nw oI I C2 D2 hh' tk' dr' mC E' hj ⟨tl2, rfl, hys1, hjl, htl2⟩ hsub V off hit
        obtain ⟨U, hU, hRu⟩ := Paired.get hKs hj
        have hsz := U.sz_le
        refine cv_one V rfl rfl rfl fun h4 tk4 V4 => ?_
        obtain ⟨oC, hn, N4⟩ := V4.led
        have F4 := V4.F
        have rX : ∀ p ∈ R, p ∈ (C2, oC) :: (D2, LCg.lst ys1) :: (I, oI) :: (tl2 ++ BASE) := fun p hp => .tail _ (.tail _ (.tail _ (List.mem_append_right _ ((rB p hp)))))
        ((try k_fold); k_steps)
        show wpAny _ _ (call (Value.ref 455) _) _ _ _
        (k_here; (with_reducible show wpAny _ _ (call (Value.ref 455) _) _ _ _); k_dflt (refine' Fn.useK ?kC ?kB ?kF ?kX ?kN ?kT ?kk ?kd ?ku ?_; (case kB => k_asm); (case kF => k_asm); (case kX => k_asm); (case kN => k_asm); (case kT => k_asm); (case kk => first | exact rfl | assumption); (case kC => exact lparts_spec w U u1 _ (hRu.mono rX)); (case kd => ktr_room); (case ku => ktr_units)); (intro KQ9 hKQ9 r9 news9 h9 tk9 dr9 F9 N9 P9); (obtain ⟨tl3, l3, its3, n3, e1, e2, hP3, hx3, hy3, hz3⟩ := P9); (replace e1 := Eq.symm e1); (subst e1); (try subst e2); (refine hKQ9 _ _ _ _ ?_); (clear hKQ9 KQ9); (try dsimp only))
        have hoI : oI.cls = .type "tuple_iterator" := by
          obtain ⟨o', e', hc', _⟩ := hit
          have := (V.N _ (.head _)).1
          rw [this] at e'; cases e'; exact hc'
        have off4C : ∀ p ∈ (I, oI) :: (tl2 ++ BASE), p.1 ≠ C2 := V4.offC
        have off4D : ∀ p ∈ (I, oI) :: (tl2 ++ BASE), p.1 ≠ D2 := V4.offD
        have gt3 : ∀ p ∈ tl3, C2 < p.1 ∧ D2 < p.1 ∧ I < p.1 ∧ ∀ q ∈ tl2 ++ BASE, q.1 < p.1 := fun p hp => ⟨hx3 p hp _ (.head _), hx3 p hp _ (.tail _ (.head _)), hx3 p hp _ (.tail _ (.tail _ (.head _))), fun q hq => hx3 p hp q (.tail _ (.tail _ (.tail _ hq)))⟩
        have gtl : C2 < l3 ∧ D2 < l3 ∧ I < l3 ∧ ∀ q ∈ tl2 ++ BASE, q.1 < l3 := ⟨hy3 _ (.head _), hy3 _ (.tail _ (.head _)), hy3 _ (.tail _ (.tail _ (.head _))), fun q hq => hy3 q (.tail _ (.tail _ (.tail _ hq)))⟩
        have hP4 : Paired (Rel (tl3 ++ (tl2 ++ BASE))) its3.toList U.subs := Paired.imp (fun _ _ x => x.monoT fun a vs h => by
          rcases List.mem_append.mp h with h | h
          · exact List.mem_append_left _ h
          · simp only [List.mem_cons, Prod.mk.injEq] at h
            rcases h with ⟨_, h⟩ | ⟨_, h⟩ | ⟨_, h⟩ | h
            · exact absurd h (by obtain ⟨es, ep, hd, _⟩ := hn; intro e; rw [← e] at hd; cases hd)
            · exact absurd h (by simp [LCg.lst])
            · exact absurd (congrArg Obj.cls h) (by rw [hoI]; simp)
            · exact List.mem_append_right _ h) hP3
        have hU5 : ∀ T : Tm, T.subs.length ≤ 5 := fun T => by cases T <;> exact Nat.le_of_ble_eq_true rfl
        have hPl : ((([T0, T1, T2].take j).flatMap Tm.subs).map Tm.op).length ≤ 15 := by
          rw [List.length_map]
          have : ∀ Ts : List Tm, (Ts.flatMap Tm.subs).length ≤ 5 * Ts.length := by
            intro Ts
            induction Ts with
            | nil => exact Nat.le_refl _
            | cons T r ih => rw [List.flatMap_cons, List.length_append, List.length_cons]; have := hU5 T; omega
          refine Nat.le_trans (this _) ?_
          rw [List.length_take]; simp only [List.length_cons, List.length_nil]; omega
        refine ⟨l3, its3, n3, (l3, W.listOf its3 n3) :: (tl3 ++ (tl2 ++ BASE)), _, fun j' ys' nwF => And2 (nwF = (I, oI) :: (l3, W.listOf its3 n3) :: (tl3 ++ (tl2 ++ BASE))) (StrsAre ys' ((([T0, T1, T2].take j).flatMap Tm.subs).map Tm.op ++ (U.subs.take j').map Tm.op)), rfl, ⟨_, _, _, rfl⟩, V4.back hn F9 N9 (by k_mem) (by k_mem) (by (k_extra "sub9")) ?qa ?qb, fun p hp => .tail _ (List.mem_append_right _ hp), ?qc, .head _, ⟨rfl, by simpa using hys1⟩, ?ql, ?qt, ?qe⟩
        case qa => exact fcons (off4C _ (.head _)) (fcons (Nat.ne_of_gt gtl.1) (fapp (fun p hp => Nat.ne_of_gt (gt3 p hp).1) (fun p hp => off4C p (.tail _ hp))))
        case qb => exact fcons (off4D _ (.head _)) (fcons (Nat.ne_of_gt gtl.2.1) (fapp (fun p hp => Nat.ne_of_gt (gt3 p hp).2.1) (fun p hp => off4D p (.tail _ hp))))
        case qc => exact fcons (Nat.ne_of_gt gtl.2.2.1) (fapp (fun p hp => Nat.ne_of_gt (gt3 p hp).2.2.1) off)
        case ql =>
          rintro j' ys' nwF ⟨_, h⟩
          have h1 := hU5 U
          rw [StrsAre.length h, List.length_append, List.length_map (f := Tm.op) (as := U.subs.take j'), List.length_take]; omega
        case qt =>
          rintro j2 v2' ys' nwF oI2 I2 h5 tk5 dr5 mC5 E5 hj2 ⟨rfl, hys'⟩ hsub5 V5 off5 hit5
          obtain ⟨U2, hU2, hR2'⟩ := Paired.get hP4 (i := j2) (a := v2') (by simpa using hj2)
          obtain ⟨a5, t5, kv5, rfl, hb5, hks5, hkl5⟩ := hR2'.open
          refine cv_one V5 rfl rfl rfl fun h6 tk6 V6 => ?_
          obtain ⟨oC6, hn6, N6⟩ := V6.led
          have F6 := V6.F
          have mb : (a5, tupO (.str U2.op t5 :: kv5)) ∈ (C2, oC6) :: (D2, LCg.lst ys') :: (I2, oI2) :: (I, oI) :: (l3, W.listOf its3 n3) :: (tl3 ++ (tl2 ++ BASE)) := .tail _ (.tail _ (.tail _ (.tail _ (.tail _ hb5))))
          ((try k_fold); k_steps)
          refine ⟨_, _, _, _, _, rfl, V6, fun _ h => h, off5, rfl, ?_⟩
          rw [List.take_add_one, hU2, List.map_append, ← List.append_assoc]
          exact StrsAre_append hys' (.cons _ _ .nil)
        case qe =>
          rintro ys' nwF ⟨rfl, hys'⟩
          have e : U.subs.take its3.size = U.subs := List.take_of_length_le (by rw [← Paired.length hP4, Array.length_toList]; exact Nat.le_refl _)
          rw [e] at hys'
          refine ⟨_, fun _ h => h, fun p hp => .tail _ (List.mem_append_right _ hp), fcons (Nat.ne_of_gt gtl.2.2.1) (fapp (fun p hp => Nat.ne_of_gt (gt3 p hp).2.2.1) off), (l3, W.listOf its3 n3) :: (tl3 ++ tl2), by rw [List.cons_append, List.append_assoc], ?_, ?_, ?_⟩
          · have e2 : (some U).toList.flatMap Tm.subs = U.subs := List.append_nil _
            rw [List.take_add_one, hU, List.flatMap_append, List.map_append, e2]
            exact hys'
          · exact (List.getElem?_eq_some_iff.mp hj).1
          · exact fcons (fun q hq => gtl.2.2.2 q (List.mem_append_right _ hq)) (fapp (fun p hp q hq => (gt3 p hp).2.2.2 q (List.mem_append_right _ hq)) htl2)
      case Te =>
        rintro Dc ys2 nw2 hc tkc drc Fc Nc offc ltc hsub ⟨tl2, rfl, hys2, _, htl2⟩
        have hys2 : StrsAre ys2 (([T0, T1, T2].flatMap Tm.subs).map Tm.op) := hys2
        have inB : ∀ p ∈ G2, p ∈ (Dc, LCg.lst ys2) :: (tl2 ++ BASE) := fun p hp => .tail _ (List.mem_append_right _ ((gB p hp)))
        have c1N := inB _ (gG2 _ hc1G)
        have hoffR : ∀ p ∈ R, p.1 ≠ s.heap.objs.size + 1 + 1 := fun p hp => off_cell Nc (inB _ (rG2 p hp)) c1N zl (hRt p hp)
        have Nd := News_sub (news' := (s.heap.objs.size + 1 + 1, oc1) :: (Dc, LCg.lst ys2) :: (DV, W.listOf ys.toArray ys.length) :: R) Nc (fcons c1N (fcons (.head _) (fcons (inB _ mLv) (fun p hp => inB _ (rG2 p hp)))))
        have UF : UpdF (s.heap.objs.size + 1 + 1) oc1 ((s.heap.objs.size + 1 + 1, oc1) :: (Dc, LCg.lst ys2) :: (DV, W.listOf ys.toArray ys.length) :: R) (fun o' => (s.heap.objs.size + 1 + 1, o') :: (Dc, LCg.lst ys2) :: (DV, W.listOf ys.toArray ys.length) :: R) := .head (fcons (Nat.ne_of_gt (ltc _ (gB _ (gG2 _ hc1G)))) (fcons (Nat.ne_of_gt hDc) hoffR))
        clear Nc offc hsub htl2 ltc
        try clear FT
        try clear NT
        have hyl2 : ys.length = (ssL.map (lf (sig T0 T1 T2))).length := StrsAre.length hys
        have hdd : (ddv ((ssL.map (lf (sig T0 T1 T2))).zip ys)).length = (ssL.map (lf (sig T0 T1 T2))).length := by
          rw [ddv_nodup _ (by rw [zip_keys hyl2]; exact hlnd) (by rw [List.length_zip]; omega), List.length_zip, hyl2, Nat.min_self]
        ((try k_fold); k_steps)
        show wpAny _ _ (eval _ _) _ _ _
        rename Fr _ _ _ _ => F8
        rename News _ _ _ _ => N8
        have N8 := News_sub (news' := (s.heap.objs.size + 1 + 1, _) :: (Dc, LCg.lst ys2) :: (DV, W.listOf ys.toArray ys.length) :: R) N8 fun p hp => .tail _ hp
        clear UF
        refine comp_test F8 rfl rfl (by decide) rfl (by decide) (fun _ => by with_unfolding_all rfl) ?_
        ((try k_fold); k_steps)
        obtain ⟨B8, hB8, N8⟩ := News_letter N8
        have mDc : (Dc, W.listOf ys2.toArray ys2.length) ∈ B8 := by rw [hB8]; exact .tail _ (.head _)
        have mDV : (DV, W.listOf ys.toArray ys.length) ∈ B8 := by rw [hB8]; exact .tail _ (.tail _ (.head _))
        have rB8 : ∀ p ∈ R, p ∈ B8 := by rw [hB8]; exact fun p hp => .tail _ (.tail _ (.tail _ hp))
        obtain ⟨o8, hd8, mc8⟩ : ∃ o : Obj, o.data = .cell (some (.ref Dc)) ∧ (s.heap.objs.size + 1 + 1, o) ∈ B8 := ⟨_, ‹_›, by rw [hB8]; exact .head _⟩
        refine ⟨DV, ys.toArray, ys.length, B8, fun j ys' nw => And2 (nw = B8) (ys' = []), rfl, F8, N8, mDV, by rw [List.size_toArray, hyl2]; exact Nat.le_trans hl2 (Nat.le_of_ble_eq_true rfl), ⟨rfl, rfl⟩, (fun j ys' nw ⟨_, h⟩ => by rw [h]; exact Nat.zero_le _), ?Xt, ?Xe⟩
        case Xt =>
          rintro j v1' ys1 nw oI I C' D' hh' tk' dr' mC E' hj ⟨rfl, rfl⟩ hsub V off hit
          obtain ⟨x, tx, rfl, hxj⟩ := strs_at hys (by simpa using hj)
          obtain ⟨hxK, hxv, hsh⟩ := hlv x (List.mem_of_getElem? hxj)
          refine cv_one V rfl rfl rfl fun h4 tk4 V4 => ?_
          obtain ⟨oC, hn, N4⟩ := V4.led
          have F4 := V4.F
          ((try k_fold); k_steps)
          · rename_i hv
            have hv : Mine.isVar x = true := hv
            rw [hxv] at hv; cases hv
          · rename Fr _ _ _ _ => FA
            rename News _ _ _ _ => NA
            exact ⟨_, _, _, _, _, rfl, V4.back hn FA NA (by k_mem) (by k_mem) (by (k_extra "sub9")) V4.offC V4.offD, fun _ h => h, off, rfl, rfl⟩
        case Xe =>
          rintro Dn ys3 nw3 hn3 tkn drn Fn Nn offn ltn hsubn ⟨rfl, rfl⟩
          ((try k_fold); k_steps)
          rename Fr _ _ _ _ => FA
          rename News _ _ _ _ => NA
          exact ⟨ov, ea, D, T0, T1, T2, vp, v1, v2, r1, r2, R, _, _, _, _, rfl, FA, e2, e3, e4, e5, News_sub NA fun p hp => .tail _ (.tail _ (rB8 p hp)), hR0, hR1, hR2, hP0, hs1, hs2, hE1, hE2, hRt, hov, hD, hA1, hA2⟩
    --]E
  clear hR0 hR1 hR2 hP0 hs1 hs2 hE1 hE2 hRt hov hD hA1 hA2 lot hd hg hkl zl zr N F e1 e2 e3 e4 e5
  rintro s' ⟨ov, ea, D, T0, T1, T2, vp, v1, v2, r1, r2, R, hh, tk, dr, m', rfl, F, e2, e3, e4, e5, N, hR0, hR1, hR2, hP0, hs1, hs2, hE1, hE2, hRt, hov, hD, hA1, hA2⟩
  show wpAny _ _ (execs (_ :: _) _) _ _ _
  refine cut_execs 2 (fun s' => Ex9 fun (a : HP) (hT : HT) (v : HV) (ns : List Nd) (R2 : Led) (hh : Heap) (tk : Nat) (dr : Drawn) (m' : Str → Option Value) => And12 (s' = { s with heap := hh, toks := tk, drawn := dr }) (Fr s.heap s.heap.objs.size hh m') (m' (Str.ofString "heap") = some (.ref a.H)) (m' (Str.ofString "one") = some v1) (m' (Str.ofString "other") = some v2) (m' (Str.ofString "overlap") = some (.ref ov)) (m' (Str.ofString "told") = some (.ref D)) (News s.heap s.heap.objs.size hh (mutL a v ++ R2)) (HFix w a hT R2) (HOk w a v ns R2) (ns.length ≤ 3) (∀ p ∈ R, p ∈ R2)) ?_ ?_
  · show wpAny _ _ (execs [_, _] _) _ _ _
    --[F
    ((try k_fold); k_steps)
    show wpAny _ _ (call (Value.ref 424) _) _ _ _
    (k_here; (with_reducible show wpAny _ _ (call (Value.ref 424) _) _ _ _); k_dflt (refine' Fn.useK ?kC ?kB ?kF ?kX ?kN ?kT ?kk ?kd ?ku ?_; (case kB => k_asm); (case kF => k_asm); (case kX => k_asm); (case kN => k_asm); (case kT => k_asm); (case kk => first | exact rfl | assumption); (case kC => exact heap_make w R); (case kd => ktr_room); (case ku => ktr_units)); (intro KQ9 hKQ9 r9 news9 h9 tk9 dr9 F9 N9 P9); (obtain ⟨a, hT, v, e1, e2, V, O, hgt⟩ := P9); (replace e1 := Eq.symm e1); (subst e1); (try subst e2); (refine hKQ9 _ _ _ _ ?_); (clear hKQ9 KQ9); (try dsimp only))
    obtain ⟨M, hM⟩ : ∃ M, M = mutL a v := ⟨_, rfl⟩
    rw [← hM] at N9
    obtain ⟨R2, hR2⟩ : ∃ R2, R2 = fixL w a hT ++ R := ⟨_, rfl⟩
    rw [← hR2] at N9 V O
    have rR2 : ∀ p ∈ R, p ∈ R2 := by rw [hR2]; exact fun p hp => List.mem_append_right _ hp
    ((try k_fold); k_steps)
    rename_i D1 hA lA D2 hB lB D3 hC lC D4 hD4 F4 N4 l4 I1 hI1 oI1 F5 N5 hI5 l5
    obtain ⟨ta, t0, tf, N5⟩ : ∃ ta t0 tf, News _ _ hI1 ((I1, oI1) :: (D4, tupO [.ref D1, .ref D3]) :: (D3, tupO [.str (Str.ofString "f") tf, .ref D2]) :: (D2, tupO [.str (Str.ofString "leaf0") t0]) :: (D1, tupO [.str (Str.ofString "a") ta]) :: (M ++ R2)) := ⟨_, _, _, N5⟩
    obtain ⟨R3, hR3⟩ : ∃ R3 : Led, R3 = (D4, tupO [.ref D1, .ref D3]) :: (D3, tupO [.str (Str.ofString "f") tf, .ref D2]) :: (D2, tupO [.str (Str.ofString "leaf0") t0]) :: (D1, tupO [.str (Str.ofString "a") ta]) :: R2 := ⟨_, rfl⟩
    have r3 : ∀ p ∈ R2, p ∈ R3 := by rw [hR3]; exact fun p hp => .tail _ (.tail _ (.tail _ (.tail _ hp)))
    have RA : Rel R3 (.ref D1) (.l (Str.ofString "a")) := by rw [hR3]; exact .l (.tail _ (.tail _ (.tail _ (.head _))))
    have RF : Rel R3 (.ref D3) (.f (Str.ofString "leaf0")) := by rw [hR3]; exact .f (.tail _ (.head _)) (.tail _ (.tail _ (.head _)))
    have hd4 : (D4, tupO [.ref D1, .ref D3]) ∈ R3 := by rw [hR3]; exact .head _
    have off3 : ∀ p ∈ R3, ∀ q ∈ M, p.1 ≠ q.1 := by
      rw [hR3]
      refine fcons (fun q hq => Nat.ne_of_gt (l4.2.2.2.mem q (List.mem_append_left _ hq))) (fcons (fun q hq => Nat.ne_of_gt (lC.2.2.mem q (List.mem_append_left _ hq))) (fcons (fun q hq => Nat.ne_of_gt (lB.2.mem q (List.mem_append_left _ hq))) (fcons (fun q hq => Nat.ne_of_gt (lA q (List.mem_append_left _ hq))) ?_)))
      rw [hM]; exact O.off
    have I3 : ∀ p ∈ R3, @LT.lt Nat _ p.1 I1 := by
      rw [hR3]
      exact fcons l5.1 (fcons l5.2.1 (fcons l5.2.2.1 (fcons l5.2.2.2.1 (fun p hp => l5.2.2.2.2.mem p (List.mem_append_right _ hp)))))
    have IM : ∀ q ∈ M, @LT.lt Nat _ q.1 I1 := fun q hq => l5.2.2.2.2.mem q (List.mem_append_left _ hq)
    have N6 := News_sub (news' := (I1, oI1) :: (M ++ R3)) N5 (by rw [hR3]; (k_extra "sub9"))
    have V3 := V.mono r3
    have m1 := V3.H
    have m2 := V3.Hd
    clear N5 N4 F4 l4 l5 lA lB lC
    (k_dflt (refine' tup_turn (i := 0) (vs := [.ref D1, .ref D3]) (v := .ref D1) (g := fun o => (I1, o) :: (M ++ R3)) ?hh F5 N6 (UpdF.head ?off) hI5 ?ht ?ne rfl ?_))
    case hh => exact rfl
    case off => exact fapp (fun q hq => Nat.ne_of_lt (IM q hq)) (fun p hp => Nat.ne_of_lt (I3 p hp))
    case ht => exact .tail _ (List.mem_append_right _ hd4)
    case ne => exact Nat.ne_of_lt (I3 _ hd4)
    intro h6 tk6 oI6 F6 N7 hI6
    ((try k_fold); k_steps)
    show wpAny _ _ (call (Value.ref 332) _) _ _ _
    rename News _ _ _ _ => N8
    have N8 := News_sub (news' := mutL a v ++ ((I1, oI6) :: R3)) N8 (by rw [← hM]; exact fapp (fun p hp => .tail _ (List.mem_append_left _ hp)) (fcons (.head _) (fun p hp => .tail _ (List.mem_append_right _ hp))))
    have offI6 : ∀ p ∈ (I1, oI6) :: R3, ∀ q ∈ mutL a v, p.1 ≠ q.1 := by rw [← hM]; exact fcons (fun q hq => Nat.ne_of_gt (IM q hq)) off3
    have P1 := put_spec w a hT (.l (Str.ofString "a")) (.ref D1) R3 RA (by intro U hU; rw [List.mem_singleton.mp hU]; exact .tail _ (.tail _ (.head _))) v [] ((I1, oI6) :: R3) (V3.mono fun p hp => .tail _ hp) (O.to (fun _ _ h => .tail _ (r3 _ h)) offI6) (fun p hp => .tail _ hp) (Nat.le_of_ble_eq_true rfl)
    obtain ⟨TA, hTA⟩ : ∃ T : Tm, T = .l (Str.ofString "a") := ⟨_, rfl⟩
    rw [← hTA] at P1
    have zA := TA.sz_le
    have yA : TA.subs.length ≤ 1 := by rw [hTA]; exact Nat.le_of_ble_eq_true rfl
    (k_here; (with_reducible show wpAny _ _ (call (Value.ref 332) _) _ _ _); k_dflt (refine' Fn.useK ?kC ?kB ?kF ?kX ?kN ?kT ?kk ?kd ?ku ?_; (case kB => k_asm); (case kF => k_asm); (case kX => k_asm); (case kN => k_asm); (case kT => k_asm); (case kk => first | exact rfl | assumption); (case kC => exact P1); (case kd => ktr_room); (case ku => ktr_units)); (intro KQ9 hKQ9 r9 news9 h9 tk9 dr9 F9 N9 P9); (obtain ⟨v2', ns2, tl2, i2, ti2, e1, O2, ⟨more2, hm2, hml2⟩, e2', hnum2, hgt2⟩ := P9); (replace e1 := Eq.symm e1); (subst e1); (try subst e2); (refine hKQ9 _ _ _ _ ?_); (clear hKQ9 KQ9); (try dsimp only))
    clear P1 offI6
    ((try k_fold); k_steps)
    show codeAny _ _ _ _ _
    obtain ⟨M2, hM2⟩ : ∃ M, M = mutL a v2' := ⟨_, rfl⟩
    obtain ⟨R4, hR4⟩ : ∃ R4 : Led, R4 = tl2 ++ R3 := ⟨_, rfl⟩
    have in4 : ∀ p ∈ R3, p ∈ R4 := by rw [hR4]; exact fun p hp => List.mem_append_right _ hp
    have ns2l : ns2.length ≤ 1 := by rw [hm2, List.nil_append]; exact Nat.le_trans hml2 yA
    have off4 : ∀ p ∈ R4, ∀ q ∈ M2, p.1 ≠ q.1 := by rw [hR4, hM2]; exact fapp (fun p hp => O2.off p (List.mem_append_left _ hp)) (fun p hp => O2.off p (List.mem_append_right _ ((.tail _ hp))))
    have IM2 : ∀ q ∈ M2, q.1 ≠ I1 := by rw [hM2]; exact fun q hq => Ne.symm (O2.off (I1, oI6) (List.mem_append_right _ ((.head _))) q hq)
    have I4 : ∀ p ∈ R4, p.1 ≠ I1 := by rw [hR4]; exact fapp (fun p hp => Nat.ne_of_gt (hgt2 p hp (I1, oI6) (.head _))) (fun p hp => Nat.ne_of_lt (I3 p hp))
    have N10 := News_sub (news' := (I1, oI6) :: (M2 ++ R4)) N9 (by rw [hM2, hR4]; (k_extra "sub9"))
    have V4 := V3.mono in4
    have m1 := V4.H
    have m2 := V4.Hd
    have hd4 := in4 _ hd4
    clear N9 off3 IM
    (k_dflt (refine' tup_turn (i := 1) (vs := [.ref D1, .ref D3]) (v := .ref D3) (g := fun o => (I1, o) :: (M2 ++ R4)) ?hh F9 N10 (UpdF.head ?off) hI6 ?ht ?ne rfl ?_))
    case hh => exact rfl
    case off => exact fapp IM2 I4
    case ht => exact .tail _ (List.mem_append_right _ hd4)
    case ne => exact I4 _ hd4
    intro h7 tk7 oI7 F7 N11 hI7
    clear N10 F9
    ((try k_fold); k_steps)
    show wpAny _ _ (call (Value.ref 332) _) _ _ _
    rename News _ _ _ _ => N12
    have N12 := News_sub (news' := mutL a v2' ++ ((I1, oI7) :: R4)) N12 (by rw [← hM2]; exact fapp (fun p hp => .tail _ (List.mem_append_left _ hp)) (fcons (.head _) (fun p hp => .tail _ (List.mem_append_right _ hp))))
    have offI7 : ∀ p ∈ (I1, oI7) :: R4, ∀ q ∈ mutL a v2', p.1 ≠ q.1 := by rw [← hM2]; exact fcons (fun q hq => Ne.symm (IM2 q hq)) off4
    have k7 : ∀ b vs, (b, tupO vs) ∈ tl2 ++ (I1, oI6) :: R3 → (b, tupO vs) ∈ (I1, oI7) :: R4 := fun b vs h => by
      rcases List.mem_append.mp h with h | h
      · exact .tail _ (by rw [hR4]; exact List.mem_append_left _ h)
      · rcases List.mem_cons.mp h with h | h
        · exact absurd ((congrArg (fun p => p.2.cls) h).symm.trans rfl) (by show ¬ oI6.cls = _; rw [hI6.cls]; simp)
        · exact .tail _ (in4 _ h)
    have P2 := put_spec w a hT (.f (Str.ofString "leaf0")) (.ref D3) R3 RF (by intro U hU; rcases List.mem_cons.mp hU with rfl | hU; exact .head _; rw [List.mem_singleton.mp hU]; exact .tail _ (.tail _ (.tail _ (.head _)))) v2' ns2 ((I1, oI7) :: R4) (V4.mono fun p hp => .tail _ hp) (O2.to k7 offI7) (fun p hp => .tail _ (in4 p hp)) (Nat.le_trans (Nat.add_le_add_right ns2l _) (Nat.le_of_ble_eq_true rfl))
    obtain ⟨TF, hTF⟩ : ∃ T : Tm, T = .f (Str.ofString "leaf0") := ⟨_, rfl⟩
    rw [← hTF] at P2
    have zF := TF.sz_le
    have yF : TF.subs.length ≤ 2 := by rw [hTF]; exact Nat.le_of_ble_eq_true rfl
    (k_here; (with_reducible show wpAny _ _ (call (Value.ref 332) _) _ _ _); k_dflt (refine' Fn.useK ?kC ?kB ?kF ?kX ?kN ?kT ?kk ?kd ?ku ?_; (case kB => k_asm); (case kF => k_asm); (case kX => k_asm); (case kN => k_asm); (case kT => k_asm); (case kk => first | exact rfl | assumption); (case kC => exact P2); (case kd => ktr_room); (case ku => ktr_units)); (intro KQ9 hKQ9 r9 news9 h9 tk9 dr9 F9 N9 P9); (obtain ⟨v3', ns3, tl3, i3, ti3, e1, O3, ⟨more3, hm3, hml3⟩, e3', hnum3, hgt3⟩ := P9); (replace e1 := Eq.symm e1); (subst e1); (try subst e2); (refine hKQ9 _ _ _ _ ?_); (clear hKQ9 KQ9); (try dsimp only))
    clear P2 offI7 k7
    ((try k_fold); k_steps)
    show codeAny _ _ _ _ _
    have I5 : ∀ p ∈ mutL a v3' ++ (tl3 ++ R4), p.1 ≠ I1 := fapp (fun q hq => Ne.symm (O3.off (I1, oI7) (List.mem_append_right _ ((.head _))) q hq)) (fapp (fun p hp => Nat.ne_of_gt (hgt3 p hp (I1, oI7) (.head _))) I4)
    (k_dflt (refine' tup_stop (i := 2) (vs := [.ref D1, .ref D3]) (r := mutL a v3' ++ (tl3 ++ R4)) ?hh F9 N9 ?hm hI7 ?ht ?ne rfl ?hs I5 ?_))
    case hh => exact rfl
    case hm => exact List.mem_append_right _ ((List.mem_append_right _ ((.head _))))
    case ht => exact List.mem_append_right _ ((List.mem_append_right _ ((.tail _ hd4))))
    case ne => exact I4 _ hd4
    case hs => (k_extra "sub9")
    intro h8 tk8 F8 N13
    clear N9 F9 I5
    ((try k_fold); k_steps)
    refine ⟨a, hT, v3', ns3, tl3 ++ R4, _, _, _, _, rfl, F8, rfl, e2, e3, e4, e5, N13, V4.mono fun p hp => List.mem_append_right _ hp, O3.to ?fk ?fo, by rw [hm3, List.length_append]; omega, fun p hp => List.mem_append_right _ ((in4 p (r3 p (rR2 p hp))))⟩
    case fk =>
      intro b vs h
      rcases List.mem_append.mp h with h | h
      · exact List.mem_append_left _ h
      · rcases List.mem_cons.mp h with h | h
        · exact absurd ((congrArg (fun p => p.2.cls) h).symm.trans rfl) (by show ¬ oI7.cls = _; rw [hI7.cls]; simp)
        · exact List.mem_append_right _ h
    case fo => exact fapp (fun p hp => O3.off p (List.mem_append_left _ hp)) (fun p hp => O3.off p (List.mem_append_right _ ((.tail _ hp))))
    --]F
  clear N F e2 e3 e4 e5
  rintro s' ⟨a, hT, v, ns, R2, hh, tk, dr, m', rfl, F, e1, e2, e3, e4, e5, N, V, O, hn3, rR2⟩
  show wpAny _ _ (execs (_ :: _) _) _ _ _
  --[G
  obtain ⟨hK, hSig⟩ := sig_spec hP0 hE1 hE2
  have memK : ∀ T ∈ [T0, T1, T2], ∀ x ∈ T.ends, x ∈ ([T0, T1, T2].flatMap Tm.subs).map Tm.op := fun T hT x hx => List.mem_map.mpr ⟨.l x, List.mem_flatMap.mpr ⟨T, hT, end_sub hx⟩, rfl⟩
  have hinj : T1.fill (sig T0 T1 T2) = T2.fill (sig T0 T1 T2) ↔ T1 = T2 := fill_inj hSig (fun x hx => ⟨hE1 x hx, memK T1 (.tail _ (.head _)) x hx⟩) (fun x hx => ⟨hE2 x hx, memK T2 (.tail _ (.tail _ (.head _))) x hx⟩)
  have mkS : ∀ (v : HV) (ns : List Nd) (rest : Led), (∀ p ∈ R2, p ∈ rest) → HOk w a v ns rest → ns.length + 8 ≤ 20 → Fn w 207 130 [.ref a.H, .ref ov] (mutL a v ++ rest) (SidesPost w a v ns rest (T1.fill (sig T0 T1 T2)) (T2.fill (sig T0 T1 T2))) := fun v ns rest k O hn =>
    sides_spec (V.mono k) O (k _ (rR2 _ hov)) (hR0.mono fun p hp => k p (rR2 p hp)) (hR1.mono fun p hp => k p (rR2 p hp)) (hR2.mono fun p hp => k p (rR2 p hp)) (short_of_ends hP0.ends) (short_of_ends fun x hx => some_ends hP0 x (hE1 x hx)) (short_of_ends fun x hx => some_ends hP0 x (hE2 x hx)) hP0.vars_len hK (fill_subs hs1) (fill_subs hs2) (fill_ops hSig hE1) (fill_ops hSig hE2) hn
  have okA : ∀ x ∈ (T1.fill (sig T0 T1 T2)).ends, PyData.strOk x = true := fun x hx => List.all_eq_true.mp strOk_ops x (fill_ops hSig hE1 _ (end_sub hx))
  have okB : ∀ x ∈ (T2.fill (sig T0 T1 T2)).ends, PyData.strOk x = true := fun x hx => List.all_eq_true.mp strOk_ops x (fill_ops hSig hE2 _ (end_sub hx))
  generalize T1.fill (sig T0 T1 T2) = A at *
  generalize T2.fill (sig T0 T1 T2) = B at *
  ((try k_fold); k_steps)
  show wpAny _ _ (call (Value.ref 207) _) _ _ _
  (k_here; (with_reducible show wpAny _ _ (call (Value.ref 207) _) _ _ _); k_dflt (refine' Fn.useK ?kC ?kB ?kF ?kX ?kN ?kT ?kk ?kd ?ku ?_; (case kB => k_asm); (case kF => k_asm); (case kX => k_asm); (case kN => k_asm); (case kT => k_asm); (case kk => first | exact rfl | assumption); (case kC => exact mkS v ns R2 (fun _ h => h) O (by omega)); (case kd => ktr_room); (case ku => ktr_units)); (intro KQ9 hKQ9 r9 news9 h9 tk9 dr9 F9 N9 P9); (obtain ⟨v4, ns4, tl, DS, i, j, ti, tj, e1, e1', hDS, O4, ⟨more, hm, hml⟩, hi, hj, hgt⟩ := P9); (replace e1 := Eq.symm e1); (subst e1); (try subst e2); (refine hKQ9 _ _ _ _ ?_); (clear hKQ9 KQ9); (try dsimp only))
  subst e1'
  obtain ⟨Z, hZ, N9⟩ := News_letter N9
  have hDZ : (DS, tupO [.int (i : Int) ti, .int (j : Int) tj]) ∈ Z := by rw [hZ]; exact List.mem_append_right _ ((List.mem_append_left _ hDS))
  have rZ : ∀ p ∈ R2, p ∈ Z := by rw [hZ]; exact fun p hp => List.mem_append_right _ ((List.mem_append_right _ hp))
  have V4 := V.mono rZ
  have m1 := V4.H
  have m2 := V4.Hd
  have m3 := V4.B
  have m4 := V4.Bd
  have hDt := rZ _ (rR2 _ hD)
  have hnl : (a.nl, W.listOf v4.nv.toArray v4.nk) ∈ Z := by rw [hZ]; exact .head _
  have KB := O4.bank.mono (r' := Z) fun b vs h => by rw [hZ]; exact List.mem_append_right _ h
  have n20 : ns4.length ≤ 11 := by rw [hm, List.length_append]; omega
  ((try k_fold); k_steps)
  show wpAny _ _ (call (Value.ref 162) _) _ _ _
  (k_here; (with_reducible show wpAny _ _ (call (Value.ref 162) _) _ _ _); k_dflt (refine' Fn.useK ?kC ?kB ?kF ?kX ?kN ?kT ?kk ?kd ?ku ?_; (case kB => k_asm); (case kF => k_asm); (case kX => k_asm); (case kN => k_asm); (case kT => k_asm); (case kk => first | exact rfl | assumption); (case kC => exact term_spec m3 m4 hnl KB O4.low (Nat.le_trans n20 (Nat.le_of_ble_eq_true rfl)) hi); (case kd => ktr_room); (case ku => ktr_units)); (intro KQ9 hKQ9 r9 news9 h9 tk9 dr9 F9 N9 P9); (obtain ⟨tlA, e1, QA, gA⟩ := P9); (replace e1 := Eq.symm e1); (subst e1); (try subst e2); (refine hKQ9 _ _ _ _ ?_); (clear hKQ9 KQ9); (try dsimp only))
  obtain ⟨Z2, hZ2, N9⟩ := News_letter N9
  have up2 : ∀ p ∈ Z, p ∈ Z2 := by rw [hZ2]; exact fun p hp => List.mem_append_right _ hp
  rw [← hZ2] at QA
  have hDt2 := up2 _ hDt
  have m12 := up2 _ m1
  have m22 := up2 _ m2
  have m32 := up2 _ m3
  have m42 := up2 _ m4
  ((try k_fold); k_steps)
  show wpAny _ _ (compareOp _ _ _) _ _ _
  refine ne_same N9 QA (hA1.mono fun p hp => up2 _ (rZ _ (rR2 _ hp))) okA ?hu1 ?_
  case hu1 => ktr_units
  ((try k_fold); k_steps)
  show wpAny _ _ (call (Value.ref 162) _) _ _ _
  (k_here; (with_reducible show wpAny _ _ (call (Value.ref 162) _) _ _ _); k_dflt (refine' Fn.useK ?kC ?kB ?kF ?kX ?kN ?kT ?kk ?kd ?ku ?_; (case kB => k_asm); (case kF => k_asm); (case kX => k_asm); (case kN => k_asm); (case kT => k_asm); (case kk => first | exact rfl | assumption); (case kC => exact term_spec (up2 _ m3) (up2 _ m4) (up2 _ hnl) (KB.mono fun b vs h => up2 _ h) O4.low (Nat.le_trans n20 (Nat.le_of_ble_eq_true rfl)) hj); (case kd => ktr_room); (case ku => ktr_units)); (intro KQ9 hKQ9 r9 news9 h9 tk9 dr9 F9 N9 P9); (obtain ⟨tlB, e1, QB, gB⟩ := P9); (replace e1 := Eq.symm e1); (subst e1); (try subst e2); (refine hKQ9 _ _ _ _ ?_); (clear hKQ9 KQ9); (try dsimp only))
  obtain ⟨Z3, hZ3, N9⟩ := News_letter N9
  have up3 : ∀ p ∈ Z2, p ∈ Z3 := by rw [hZ3]; exact fun p hp => List.mem_append_right _ hp
  rw [← hZ3] at QB
  have hDt3 := up3 _ hDt2
  have m13 := up3 _ m12
  have m23 := up3 _ m22
  have m33 := up3 _ m32
  have m43 := up3 _ m42
  ((try k_fold); k_steps)
  show wpAny _ _ (compareOp _ _ _) _ _ _
  refine ne_same N9 QB (hA2.mono fun p hp => up3 _ (up2 _ (rZ _ (rR2 _ hp)))) okB ?hu2 ?_
  case hu2 => ktr_units
  ((try k_fold); k_steps)
  have ltAll : ∀ p ∈ tlB ++ (tlA ++ (tl ++ R2)), ∀ q ∈ mutL a v4, p.1 ≠ q.1 := by
    intro p hp q hq
    have hqZ : q ∈ Z := by rw [hZ]; exact List.mem_append_left _ hq
    rcases List.mem_append.mp hp with hp | hp
    · exact Nat.ne_of_gt (gB p hp q (up2 _ hqZ))
    · rcases List.mem_append.mp hp with hp | hp
      · exact Nat.ne_of_gt (gA p hp q hqZ)
      · exact O4.off p hp q hq
  have O5 : HOk w a v4 ns4 (tlB ++ (tlA ++ (tl ++ R2))) := O4.to (fun b vs h => List.mem_append_right _ ((List.mem_append_right _ h))) ltAll
  have k5 : ∀ p ∈ R2, p ∈ tlB ++ (tlA ++ (tl ++ R2)) := fun p hp => List.mem_append_right _ ((List.mem_append_right _ ((List.mem_append_right _ hp))))
  replace N9 := News_sub (news' := mutL a v4 ++ (tlB ++ (tlA ++ (tl ++ R2)))) N9 (by
    intro p hp
    rw [hZ3]
    rcases List.mem_append.mp hp with hp | hp
    · exact List.mem_append_right _ ((by rw [hZ2]; exact List.mem_append_right _ ((by rw [hZ]; exact List.mem_append_left _ hp))))
    · rcases List.mem_append.mp hp with hp | hp
      · exact List.mem_append_left _ hp
      · refine List.mem_append_right _ ?_
        rw [hZ2]
        rcases List.mem_append.mp hp with hp | hp
        · exact List.mem_append_left _ hp
        · exact List.mem_append_right _ ((by rw [hZ]; exact List.mem_append_right _ hp)))
  clear hDt3 m13 m23 m33 m43 hDt2 m12 m22 m32 m42 QA QB hDZ
  generalize hr5 : tlB ++ (tlA ++ (tl ++ R2)) = R5 at *
  show wpAny _ _ (call (Value.ref 214) _) _ _ _
  (k_here; (with_reducible show wpAny _ _ (call (Value.ref 214) _) _ _ _); k_dflt (refine' Fn.useK ?kC ?kB ?kF ?kX ?kN ?kT ?kk ?kd ?ku ?_; (case kB => k_asm); (case kF => k_asm); (case kX => k_asm); (case kN => k_asm); (case kT => k_asm); (case kk => first | exact rfl | assumption); (case kC => exact joined_spec (V.mono k5) (mkS v4 ns4 R5 k5 O5 (by omega)) (by omega)); (case kd => ktr_room); (case ku => ktr_units)); (intro KQ9 hKQ9 r9 news9 h9 tk9 dr9 F9 N9 P9); (obtain ⟨v6, ns6, tl6, i6, j6, e1, e6, O6, ⟨more6, hm6, hml6⟩, hi6, hj6, gt6⟩ := P9); (replace e1 := Eq.symm e1); (subst e1); (try subst e2); (refine hKQ9 _ _ _ _ ?_); (clear hKQ9 KQ9); (try dsimp only))
  subst e6
  obtain ⟨Z6, hZ6, N9⟩ := News_letter N9
  have up6 : ∀ p ∈ R2, p ∈ Z6 := by rw [hZ6]; exact fun p hp => List.mem_append_right _ ((List.mem_append_right _ ((k5 p hp))))
  have V6 := V.mono up6
  have m16 := V6.H
  have m26 := V6.Hd
  have hDt6 := up6 _ (rR2 _ hD)
  ((try k_fold); k_steps)
  show wpAny _ _ (compareOp _ _ _) _ _ _
  have hb : T1.dat.eqv T2.dat = decide (i6 = j6) := by
    rw [Bool.eq_iff_iff, decide_eq_true_iff]
    constructor
    · intro h
      have h2 := hinj.mpr (dat_eqv.mp h)
      rw [h2] at hi6
      exact hi6.inj O6.bank.nd hj6
    · intro h
      rw [h] at hi6
      exact dat_eqv.mpr (hinj.mp (hi6.fun hj6))
  refine eq_terms N9 (hR1.mono fun p hp => up6 _ (rR2 _ hp)) (hR2.mono fun p hp => up6 _ (rR2 _ hp)) (fun x hx => List.all_eq_true.mp strOk_ends x (some_ends hP0 x (hE1 x hx))) (fun x hx => List.all_eq_true.mp strOk_ends x (some_ends hP0 x (hE2 x hx))) ?hu3 ?_
  case hu3 => ktr_units
  rw [hb]
  ((try k_fold); k_steps)
  show wpAny _ _ (call (Value.ref 353) _) _ _ _
  have hi4 := (hi.more (more := more6)).lt
  have hj4 := (hj.more (more := more6)).lt
  rw [← hm6] at hi4 hj4
  have hab6 : (a.ab, W.listOf v6.as.toArray v6.ak) ∈ Z6 := by rw [hZ6]; exact .tail _ (.tail _ (.tail _ (.tail _ (.head _))))
  have n30 : ns6.length ≤ 30 := by rw [hm6, List.length_append]; omega
  (k_here; (with_reducible show wpAny _ _ (call (Value.ref 353) _) _ _ _); k_dflt (refine' Fn.useK ?kC ?kB ?kF ?kX ?kN ?kT ?kk ?kd ?ku ?_; (case kB => k_asm); (case kF => k_asm); (case kX => k_asm); (case kN => k_asm); (case kT => k_asm); (case kk => first | exact rfl | assumption); (case kC => exact like_spec V6 hab6 O6.idx hi4 hj4 n30); (case kd => ktr_room); (case ku => ktr_units)); (intro KQ9 hKQ9 r9 news9 h9 tk9 dr9 F9 N9 P9); (obtain ⟨e1, e8⟩ := P9); (replace e1 := Eq.symm e1); (subst e1); (try subst e2); (refine hKQ9 _ _ _ _ ?_); (clear hKQ9 KQ9); (try dsimp only))
  subst e8
  ((try k_fold); k_steps)
  show wpAny _ _ (compareOp _ _ _) _ _ _
  have hb2 : T1.dat.eqv T2.dat = decide (i = j) := by
    rw [Bool.eq_iff_iff, decide_eq_true_iff]
    constructor
    · intro h
      have h2 := hinj.mpr (dat_eqv.mp h)
      rw [h2] at hi
      exact hi.inj O4.bank.nd hj
    · intro h
      rw [h] at hi
      exact dat_eqv.mpr (hinj.mp (hi.fun hj))
  refine eq_terms N9 (hR1.mono fun p hp => up6 _ (rR2 _ hp)) (hR2.mono fun p hp => up6 _ (rR2 _ hp)) (fun x hx => List.all_eq_true.mp strOk_ends x (some_ends hP0 x (hE1 x hx))) (fun x hx => List.all_eq_true.mp strOk_ends x (some_ends hP0 x (hE2 x hx))) ?hu4 ?_
  case hu4 => ktr_units
  rw [hb2]
  ((try k_fold); k_steps)
  --]G
)

end

end Mine
theorem PySem.Challenge.cw_rg0118_01_holds : PySem.Challenge.rw_rg0118_01.Holds :=
  Mine.law_test

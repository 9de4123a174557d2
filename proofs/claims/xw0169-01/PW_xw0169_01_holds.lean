import PyProof.Rows.All
import Wide.All
import OpenK.AllK
import Wide.FinOn
import PyProof.InstStoreFacts
import PySem.Challenge.RW_xw0169_01
set_option Elab.async false
set_option autoImplicit false
set_option linter.all false
set_option maxRecDepth 100000
set_option genSizeOf false
set_option genSizeOfSpec false
set_option genInjectivity false
set_option bootstrap.genMatcherCode false
set_option backward.eqns.nonrecursive false
set_option backward.eqns.deepRecursiveSplit false
set_option backward.proofsInPublic true
set_option backward.match.sparseCases false
section
open PySem PySem.W PyProof.Rows
namespace Mine
theorem LeftO.of_boot {p q : Program} {loose : List Str} {Xt : Shared → Bool} {α : Type} {Yf : Shared → α} {Ya : World → α} {N : Nat} {g0 : Bool}
    (e : opening p = plainProg p.main.scope.names) (hN : Nat.ble 600 N = true) (f : ∀ s, fenceModules? p s = some s)
    (h1 : ∀ (w : World) (os : OsState), (topFrom treeTable p w N ⟨boot_heap w.params, Array.mk [], boot_drawn, boot_toks, os⟩).map (openSeen q loose (importedModules p.main.body) Xt g0) = some (openGood q loose))
    (h2 : ∀ (w : World) (os : OsState), (topFrom treeTable p w N ⟨boot_heap w.params, Array.mk [], boot_drawn, boot_toks, os⟩).map Yf = some (Ya w)) :
    LeftO p q loose Xt Yf Ya N g0 := fun w => by
  obtain ⟨s, hs, hv⟩ := Option.map_eq_some_iff.mp (boot_open e hN f w)
  unfold openEnds
  rw [hs]
  obtain ⟨hp, gs, d, k, os⟩ := s
  injection hv with e1 hv
  injection hv with e2 hv
  injection hv with e3 e4
  show (topFrom treeTable p w N ⟨hp, gs, d, k, os⟩).map _ = _
  have e1 : hp = _ := e1
  have e2 : gs = _ := e2
  have e3 : d = _ := e3
  have e4 : k = _ := e4
  rw [e1, e2, e3, e4]
  obtain ⟨s, hs, q1⟩ := Option.map_eq_some_iff.mp (h1 w os)
  have q2 := h2 w os
  rw [hs] at q2 ⊢
  injection q2 with q2
  exact congrArg some (Prod.ext q1 q2)
theorem fence_same (s : Shared) : fenceModules? PySem.Challenge.pw_xw0169_01 s = some s := by kernel_rfl
noncomputable def pick (l : List PySem.Stmt) (is : List Nat) : List PySem.Stmt := is.filterMap (l[·]?)
noncomputable def hd.view : Program := { PySem.Challenge.pw_xw0169_01 with main := { PySem.Challenge.pw_xw0169_01.main with body := pick PySem.Challenge.pw_xw0169_01.main.body [1, 2, 4, 5, 6, 8, 9, 10, 11, 12, 13, 14, 15, 17, 18, 19, 20, 21, 23, 24, 25, 26, 27, 28, 29, 30, 31, 32, 33, 34, 35, 37, 38, 39, 40, 41, 42, 43, 44, 45, 46, 47, 48, 49, 50, 51, 52, 53, 54, 55] } }
theorem seen_parts {α β1 β2 β3 β4 β5 : Type} {T : Option α} {f : α → β1 × β2 × β3 × β4 × β5} {a : β1} {b : β2} {c : β3} {d : β4} {e : β5} (h1 : T.map (fun s => ((f s).1, (f s).2.1)) = some (a, b)) (h2 : T.map (fun s => ((f s).2.2.1, (f s).2.2.2.1)) = some (c, d))
    (h3 : T.map (fun s => (f s).2.2.2.2) = some e) : T.map f = some (a, b, c, d, e) := by
  obtain ⟨s, hs, q3⟩ := Option.map_eq_some_iff.mp h3
  rw [hs] at h1 h2 ⊢
  injection h1 with q1
  injection h2 with q2
  injection q1 with q1 q1'
  injection q2 with q2 q2'
  exact congrArg some (Prod.ext q1 (Prod.ext q1' (Prod.ext q2 (Prod.ext q2' q3))))
theorem pair_parts {α β1 β2 : Type} {T : Option α} {f : α → β1} {g : α → β2} {a : β1} {b : β2} (h1 : T.map f = some a) (h2 : T.map g = some b) : T.map (fun s => (f s, g s)) = some (a, b) := by
  obtain ⟨s, hs, q1⟩ := Option.map_eq_some_iff.mp h1
  rw [hs] at h2 ⊢
  injection h2 with q2
  exact congrArg some (Prod.ext q1 q2)
theorem hd.said_a : sreFenced PySem.Challenge.rw_xw0169_01.row.prog.main = true := by kernel_rfl
theorem hd.said_b : namesResolve PySem.Challenge.rw_xw0169_01.row.prog = true := by kernel_rfl
theorem hd.said_c : (namesMeet PySem.Challenge.rw_xw0169_01.row.prog PySem.Challenge.rw_xw0169_01.row.prog.main.body fun _ n => attrL n) = true := by kernel_rfl
theorem hd.said1 : PySem.Challenge.rw_xw0169_01.row.wellSaid = true := by
  unfold OpenRow.wellSaid OpenRow.partSaid looksOpen
  rw [hd.said_a, hd.said_b, hd.said_c]
  kernel_rfl
theorem hd.said : PySem.Challenge.rw_xw0169_01.wellSaid = true := by
  unfold OpenLaw.wellSaid
  rw [hd.said1]
  kernel_rfl
noncomputable abbrev hd.T (w : World) (os : OsState) : Option Shared := topFrom treeTable PySem.Challenge.pw_xw0169_01 w 5014 ⟨boot_heap w.params, Array.mk [], boot_drawn, boot_toks, os⟩
theorem hd.seen1 (w : World) (os : OsState) : (hd.T w os).map (fun s => ((openSeen Mine.hd.view [PySem.Str.ofString "LendError", PySem.Str.ofString "read_spath"] (importedModules PySem.Challenge.pw_xw0169_01.main.body) (fun s => xlAt Mine.hd.view [] s && recOk (RowW.records PySem.Challenge.rw_xw0169_01.row.toRowW) s) true s).1, (openSeen Mine.hd.view [PySem.Str.ofString "LendError", PySem.Str.ofString "read_spath"] (importedModules PySem.Challenge.pw_xw0169_01.main.body) (fun s => xlAt Mine.hd.view [] s && recOk (RowW.records PySem.Challenge.rw_xw0169_01.row.toRowW) s) true s).2.1)) = some (expectedOf Mine.hd.view, bltViewBooted) := by
  unfold hd.T topFrom; rw [PySem.W.Fast.te14082659384304107361, PySem.W.Fast.te14364793385576792824]; rw [PySem.W.Fast.te4187177175401517315]; kernel_rfl
theorem hd.seen2 (w : World) (os : OsState) : (hd.T w os).map (fun s => ((openSeen Mine.hd.view [PySem.Str.ofString "LendError", PySem.Str.ofString "read_spath"] (importedModules PySem.Challenge.pw_xw0169_01.main.body) (fun s => xlAt Mine.hd.view [] s && recOk (RowW.records PySem.Challenge.rw_xw0169_01.row.toRowW) s) true s).2.2.1, (openSeen Mine.hd.view [PySem.Str.ofString "LendError", PySem.Str.ofString "read_spath"] (importedModules PySem.Challenge.pw_xw0169_01.main.body) (fun s => xlAt Mine.hd.view [] s && recOk (RowW.records PySem.Challenge.rw_xw0169_01.row.toRowW) s) true s).2.2.2.1)) = some (true, true) := by
  unfold hd.T topFrom; rw [PySem.W.Fast.te14082659384304107361, PySem.W.Fast.te14364793385576792824]; rw [PySem.W.Fast.te4187177175401517315]; kernel_rfl
theorem hd.seen3 (w : World) (os : OsState) : (hd.T w os).map (fun s => (openSeen Mine.hd.view [PySem.Str.ofString "LendError", PySem.Str.ofString "read_spath"] (importedModules PySem.Challenge.pw_xw0169_01.main.body) (fun s => xlAt Mine.hd.view [] s && recOk (RowW.records PySem.Challenge.rw_xw0169_01.row.toRowW) s) true s).2.2.2.2) = some (pinGoodD (drecsOf Mine.hd.view), plainGoodE Mine.hd.view (looseW Mine.hd.view [PySem.Str.ofString "LendError", PySem.Str.ofString "read_spath"]), plainGoodD Mine.hd.view [PySem.Str.ofString "LendError", PySem.Str.ofString "read_spath"], wideGood Mine.hd.view, clsGoodW Mine.hd.view [PySem.Str.ofString "LendError", PySem.Str.ofString "read_spath"]) := by
  unfold hd.T topFrom; rw [PySem.W.Fast.te14082659384304107361, PySem.W.Fast.te14364793385576792824]; rw [PySem.W.Fast.te4187177175401517315]; kernel_rfl
theorem hd.seen (w : World) (os : OsState) : (hd.T w os).map (openSeen Mine.hd.view [PySem.Str.ofString "LendError", PySem.Str.ofString "read_spath"] (importedModules PySem.Challenge.pw_xw0169_01.main.body) (fun s => xlAt Mine.hd.view [] s && recOk (RowW.records PySem.Challenge.rw_xw0169_01.row.toRowW) s) true) = some (openGood Mine.hd.view [PySem.Str.ofString "LendError", PySem.Str.ofString "read_spath"]) := seen_parts (hd.seen1 w os) (hd.seen2 w os) (hd.seen3 w os)
end Mine
end
section
namespace Mine
theorem E0A2 {P1 P2 : Prop} {C : Prop} (h : P1 ∧ P2) (k : P1 → P2 → C) : C := k h.1 h.2
theorem E0A3 {P1 P2 P3 : Prop} {C : Prop} (h : P1 ∧ P2 ∧ P3) (k : P1 → P2 → P3 → C) : C := k h.1 h.2.1 h.2.2
theorem E0A4 {P1 P2 P3 P4 : Prop} {C : Prop} (h : P1 ∧ P2 ∧ P3 ∧ P4) (k : P1 → P2 → P3 → P4 → C) : C := k h.1 h.2.1 h.2.2.1 h.2.2.2
theorem E0A5 {P1 P2 P3 P4 P5 : Prop} {C : Prop} (h : P1 ∧ P2 ∧ P3 ∧ P4 ∧ P5) (k : P1 → P2 → P3 → P4 → P5 → C) : C := k h.1 h.2.1 h.2.2.1 h.2.2.2.1 h.2.2.2.2
theorem E0A6 {P1 P2 P3 P4 P5 P6 : Prop} {C : Prop} (h : P1 ∧ P2 ∧ P3 ∧ P4 ∧ P5 ∧ P6) (k : P1 → P2 → P3 → P4 → P5 → P6 → C) : C := k h.1 h.2.1 h.2.2.1 h.2.2.2.1 h.2.2.2.2.1 h.2.2.2.2.2
theorem E0A8 {P1 P2 P3 P4 P5 P6 P7 P8 : Prop} {C : Prop} (h : P1 ∧ P2 ∧ P3 ∧ P4 ∧ P5 ∧ P6 ∧ P7 ∧ P8) (k : P1 → P2 → P3 → P4 → P5 → P6 → P7 → P8 → C) : C := k h.1 h.2.1 h.2.2.1 h.2.2.2.1 h.2.2.2.2.1 h.2.2.2.2.2.1 h.2.2.2.2.2.2.1 h.2.2.2.2.2.2.2
theorem E1A1.{u1} {α1 : Sort u1} {P1 : α1 → Prop} {C : Prop} (h : ∃ x1, P1 x1) (k : ∀ x1, P1 x1 → C) : C := h.elim fun x1 h => k x1 h
theorem E1A2.{u1} {α1 : Sort u1} {P1 P2 : α1 → Prop} {C : Prop} (h : ∃ x1, P1 x1 ∧ P2 x1) (k : ∀ x1, P1 x1 → P2 x1 → C) : C := h.elim fun x1 h => k x1 h.1 h.2
theorem E1A3.{u1} {α1 : Sort u1} {P1 P2 P3 : α1 → Prop} {C : Prop} (h : ∃ x1, P1 x1 ∧ P2 x1 ∧ P3 x1) (k : ∀ x1, P1 x1 → P2 x1 → P3 x1 → C) : C := h.elim fun x1 h => k x1 h.1 h.2.1 h.2.2
theorem E1A4.{u1} {α1 : Sort u1} {P1 P2 P3 P4 : α1 → Prop} {C : Prop} (h : ∃ x1, P1 x1 ∧ P2 x1 ∧ P3 x1 ∧ P4 x1) (k : ∀ x1, P1 x1 → P2 x1 → P3 x1 → P4 x1 → C) : C := h.elim fun x1 h => k x1 h.1 h.2.1 h.2.2.1 h.2.2.2
theorem E1A5.{u1} {α1 : Sort u1} {P1 P2 P3 P4 P5 : α1 → Prop} {C : Prop} (h : ∃ x1, P1 x1 ∧ P2 x1 ∧ P3 x1 ∧ P4 x1 ∧ P5 x1) (k : ∀ x1, P1 x1 → P2 x1 → P3 x1 → P4 x1 → P5 x1 → C) : C := h.elim fun x1 h => k x1 h.1 h.2.1 h.2.2.1 h.2.2.2.1 h.2.2.2.2
theorem E2A1.{u1, u2} {α1 : Sort u1} {α2 : Sort u2} {P1 : α1 → α2 → Prop} {C : Prop} (h : ∃ x1, ∃ x2, P1 x1 x2) (k : ∀ x1 x2, P1 x1 x2 → C) : C := h.elim fun x1 h => h.elim fun x2 h => k x1 x2 h
theorem E2A2.{u1, u2} {α1 : Sort u1} {α2 : Sort u2} {P1 P2 : α1 → α2 → Prop} {C : Prop} (h : ∃ x1, ∃ x2, P1 x1 x2 ∧ P2 x1 x2) (k : ∀ x1 x2, P1 x1 x2 → P2 x1 x2 → C) : C := h.elim fun x1 h => h.elim fun x2 h => k x1 x2 h.1 h.2
theorem E2A3.{u1, u2} {α1 : Sort u1} {α2 : Sort u2} {P1 P2 P3 : α1 → α2 → Prop} {C : Prop} (h : ∃ x1, ∃ x2, P1 x1 x2 ∧ P2 x1 x2 ∧ P3 x1 x2) (k : ∀ x1 x2, P1 x1 x2 → P2 x1 x2 → P3 x1 x2 → C) : C := h.elim fun x1 h => h.elim fun x2 h => k x1 x2 h.1 h.2.1 h.2.2
theorem E2A4.{u1, u2} {α1 : Sort u1} {α2 : Sort u2} {P1 P2 P3 P4 : α1 → α2 → Prop} {C : Prop} (h : ∃ x1, ∃ x2, P1 x1 x2 ∧ P2 x1 x2 ∧ P3 x1 x2 ∧ P4 x1 x2) (k : ∀ x1 x2, P1 x1 x2 → P2 x1 x2 → P3 x1 x2 → P4 x1 x2 → C) : C := h.elim fun x1 h => h.elim fun x2 h => k x1 x2 h.1 h.2.1 h.2.2.1 h.2.2.2
theorem E3A2.{u1, u2, u3} {α1 : Sort u1} {α2 : Sort u2} {α3 : Sort u3} {P1 P2 : α1 → α2 → α3 → Prop} {C : Prop} (h : ∃ x1, ∃ x2, ∃ x3, P1 x1 x2 x3 ∧ P2 x1 x2 x3) (k : ∀ x1 x2 x3, P1 x1 x2 x3 → P2 x1 x2 x3 → C) : C := h.elim fun x1 h => h.elim fun x2 h => h.elim fun x3 h => k x1 x2 x3 h.1 h.2
theorem E3A3.{u1, u2, u3} {α1 : Sort u1} {α2 : Sort u2} {α3 : Sort u3} {P1 P2 P3 : α1 → α2 → α3 → Prop} {C : Prop} (h : ∃ x1, ∃ x2, ∃ x3, P1 x1 x2 x3 ∧ P2 x1 x2 x3 ∧ P3 x1 x2 x3) (k : ∀ x1 x2 x3, P1 x1 x2 x3 → P2 x1 x2 x3 → P3 x1 x2 x3 → C) : C := h.elim fun x1 h => h.elim fun x2 h => h.elim fun x3 h => k x1 x2 x3 h.1 h.2.1 h.2.2
theorem E3A4.{u1, u2, u3} {α1 : Sort u1} {α2 : Sort u2} {α3 : Sort u3} {P1 P2 P3 P4 : α1 → α2 → α3 → Prop} {C : Prop} (h : ∃ x1, ∃ x2, ∃ x3, P1 x1 x2 x3 ∧ P2 x1 x2 x3 ∧ P3 x1 x2 x3 ∧ P4 x1 x2 x3) (k : ∀ x1 x2 x3, P1 x1 x2 x3 → P2 x1 x2 x3 → P3 x1 x2 x3 → P4 x1 x2 x3 → C) : C := h.elim fun x1 h => h.elim fun x2 h => h.elim fun x3 h => k x1 x2 x3 h.1 h.2.1 h.2.2.1 h.2.2.2
theorem E3A5.{u1, u2, u3} {α1 : Sort u1} {α2 : Sort u2} {α3 : Sort u3} {P1 P2 P3 P4 P5 : α1 → α2 → α3 → Prop} {C : Prop} (h : ∃ x1, ∃ x2, ∃ x3, P1 x1 x2 x3 ∧ P2 x1 x2 x3 ∧ P3 x1 x2 x3 ∧ P4 x1 x2 x3 ∧ P5 x1 x2 x3) (k : ∀ x1 x2 x3, P1 x1 x2 x3 → P2 x1 x2 x3 → P3 x1 x2 x3 → P4 x1 x2 x3 → P5 x1 x2 x3 → C) : C := h.elim fun x1 h => h.elim fun x2 h => h.elim fun x3 h => k x1 x2 x3 h.1 h.2.1 h.2.2.1 h.2.2.2.1 h.2.2.2.2
theorem E3A8.{u1, u2, u3} {α1 : Sort u1} {α2 : Sort u2} {α3 : Sort u3} {P1 P2 P3 P4 P5 P6 P7 P8 : α1 → α2 → α3 → Prop} {C : Prop} (h : ∃ x1, ∃ x2, ∃ x3, P1 x1 x2 x3 ∧ P2 x1 x2 x3 ∧ P3 x1 x2 x3 ∧ P4 x1 x2 x3 ∧ P5 x1 x2 x3 ∧ P6 x1 x2 x3 ∧ P7 x1 x2 x3 ∧ P8 x1 x2 x3) (k : ∀ x1 x2 x3, P1 x1 x2 x3 → P2 x1 x2 x3 → P3 x1 x2 x3 → P4 x1 x2 x3 → P5 x1 x2 x3 → P6 x1 x2 x3 → P7 x1 x2 x3 → P8 x1 x2 x3 → C) : C := h.elim fun x1 h => h.elim fun x2 h => h.elim fun x3 h => k x1 x2 x3 h.1 h.2.1 h.2.2.1 h.2.2.2.1 h.2.2.2.2.1 h.2.2.2.2.2.1 h.2.2.2.2.2.2.1 h.2.2.2.2.2.2.2
theorem E4A2.{u1, u2, u3, u4} {α1 : Sort u1} {α2 : Sort u2} {α3 : Sort u3} {α4 : Sort u4} {P1 P2 : α1 → α2 → α3 → α4 → Prop} {C : Prop} (h : ∃ x1, ∃ x2, ∃ x3, ∃ x4, P1 x1 x2 x3 x4 ∧ P2 x1 x2 x3 x4) (k : ∀ x1 x2 x3 x4, P1 x1 x2 x3 x4 → P2 x1 x2 x3 x4 → C) : C := h.elim fun x1 h => h.elim fun x2 h => h.elim fun x3 h => h.elim fun x4 h => k x1 x2 x3 x4 h.1 h.2
theorem E4A3.{u1, u2, u3, u4} {α1 : Sort u1} {α2 : Sort u2} {α3 : Sort u3} {α4 : Sort u4} {P1 P2 P3 : α1 → α2 → α3 → α4 → Prop} {C : Prop} (h : ∃ x1, ∃ x2, ∃ x3, ∃ x4, P1 x1 x2 x3 x4 ∧ P2 x1 x2 x3 x4 ∧ P3 x1 x2 x3 x4) (k : ∀ x1 x2 x3 x4, P1 x1 x2 x3 x4 → P2 x1 x2 x3 x4 → P3 x1 x2 x3 x4 → C) : C := h.elim fun x1 h => h.elim fun x2 h => h.elim fun x3 h => h.elim fun x4 h => k x1 x2 x3 x4 h.1 h.2.1 h.2.2
theorem E4A4.{u1, u2, u3, u4} {α1 : Sort u1} {α2 : Sort u2} {α3 : Sort u3} {α4 : Sort u4} {P1 P2 P3 P4 : α1 → α2 → α3 → α4 → Prop} {C : Prop} (h : ∃ x1, ∃ x2, ∃ x3, ∃ x4, P1 x1 x2 x3 x4 ∧ P2 x1 x2 x3 x4 ∧ P3 x1 x2 x3 x4 ∧ P4 x1 x2 x3 x4) (k : ∀ x1 x2 x3 x4, P1 x1 x2 x3 x4 → P2 x1 x2 x3 x4 → P3 x1 x2 x3 x4 → P4 x1 x2 x3 x4 → C) : C := h.elim fun x1 h => h.elim fun x2 h => h.elim fun x3 h => h.elim fun x4 h => k x1 x2 x3 x4 h.1 h.2.1 h.2.2.1 h.2.2.2
theorem E4A6.{u1, u2, u3, u4} {α1 : Sort u1} {α2 : Sort u2} {α3 : Sort u3} {α4 : Sort u4} {P1 P2 P3 P4 P5 P6 : α1 → α2 → α3 → α4 → Prop} {C : Prop} (h : ∃ x1, ∃ x2, ∃ x3, ∃ x4, P1 x1 x2 x3 x4 ∧ P2 x1 x2 x3 x4 ∧ P3 x1 x2 x3 x4 ∧ P4 x1 x2 x3 x4 ∧ P5 x1 x2 x3 x4 ∧ P6 x1 x2 x3 x4) (k : ∀ x1 x2 x3 x4, P1 x1 x2 x3 x4 → P2 x1 x2 x3 x4 → P3 x1 x2 x3 x4 → P4 x1 x2 x3 x4 → P5 x1 x2 x3 x4 → P6 x1 x2 x3 x4 → C) : C := h.elim fun x1 h => h.elim fun x2 h => h.elim fun x3 h => h.elim fun x4 h => k x1 x2 x3 x4 h.1 h.2.1 h.2.2.1 h.2.2.2.1 h.2.2.2.2.1 h.2.2.2.2.2
end Mine
end
section
namespace Mine
open PySem
inductive Tg where
  | one (n : Nat)
  | two (ns : List Nat)
inductive Ex where
  | bad
  | none
  | bool (b : Bool)
  | int (i : Int)
  | str (s : Str)
  | nm (n : Nat)
  | bop (a : Bool) (es : List Ex)
  | not (e : Ex)
  | neg (e : Ex)
  | bin (op : Operator) (l r : Ex)
  | ite (t b o : Ex)
  | tup (es : List Ex)
  | list (mu : Bool) (es : List Ex)
  | cmp (op : CmpOp) (l r : Ex)
  | call (f : Nat) (args : List Ex)
  | meth (o : Ex) (m : Nat) (args : List Ex)
  | attr (o : Ex) (a : Nat)
  | idx (o i : Ex)
  | sl (o lo : Ex)
  | comp (elt : Ex) (tg : Tg) (iter : Ex) (conds : List Ex) (ks : List (Nat × NameKind))
inductive St where
  | bad
  | expr (e : Ex)
  | asg (n : Nat) (e : Ex)
  | asgT (ns : List Nat) (rev : Bool) (e : Ex)
  | asgTT (ns : List Nat) (rev : Bool) (es : List Ex)
  | asgA (o : Ex) (a : Nat) (e : Ex)
  | asgS (o i : Ex) (e : Ex)
  | augA (o : Ex) (a : Nat) (op : Operator) (e : Ex)
  | ret (e : Ex)
  | ifS (t : Ex) (b o : List St)
  | whl (t : Ex) (b : List St)
  | for_ (n : Nat) (iter : Ex) (b : List St)
  | raise (m s : Ex)
  | try_ (e : Ex)
  | brk
inductive D where
  | none
  | bool (b : Bool)
  | int (i : Int)
  | str (s : Str)
  | tup (l : List D)
  | list (l : List D)
  | gv (n : Nat)
  | rng (n : Int)
inductive V where
  | d (x : D)
  | loc (i : Nat)
inductive O where
  | list (l : List D)
  | inst (fs : List (Nat × D))
noncomputable abbrev Hp := List O
noncomputable abbrev Loc := List (Nat × V)
noncomputable abbrev Ks := List (Nat × NameKind)
inductive R (α : Type) where
  | ok (a : α) (H : Hp)
  | exc (m : Str) (sp : D) (H : Hp)
  | bad
noncomputable def R.bind {α β : Type} (x : R α) (f : α → Hp → R β) : R β := match x with
  | .ok a H => f a H
  | .exc m sp H => .exc m sp H
  | .bad => .bad
noncomputable def R.guard {α : Type} (c : Bool) (x : R α) : R α := match c with
  | true => x
  | false => .bad
noncomputable def R.only {α : Type} (x : R α) : R α := match x with
  | .exc _ _ _ => .bad
  | x => x
inductive Fl where
  | next | brk | cont
  | ret (v : V)
structure Fn where
  params : List Nat
  dflts : List D
  ks : Ks
  body : List St
structure Tab where
  fn : Nat → Option Fn
  const : Nat → Option D
  meth : Nat → Option Nat
noncomputable def dats : List V → Option (List D)
  | [] => some []
  | .d x :: r => (dats r).map (x :: ·)
  | .loc _ :: _ => Option.none
noncomputable def listOf (H : Hp) : V → Option (List D)
  | .d (.list l) => some l
  | .loc i => match H[i]? with
    | some (.list l) => some l
    | _ => Option.none
  | _ => Option.none
noncomputable def strsOf : List D → Option (List Str)
  | [] => some []
  | .str s :: r => (strsOf r).map (s :: ·)
  | _ :: _ => Option.none
noncomputable def int? : V → Option Int
  | .d (.int i) => some i
  | _ => Option.none
noncomputable def str? : V → Option Str
  | .d (.str s) => some s
  | _ => Option.none
noncomputable def retI (i : Int) (H : Hp) : R V := .ok (.d (.int i)) H
noncomputable def retS (s : Str) (H : Hp) : R V := .ok (.d (.str s)) H
noncomputable def line : Nat := 16777216
noncomputable def smallI (x : Int) : Bool := decide (-9223372036854775808 ≤ x) && decide (x < 9223372036854775808)
noncomputable def divOk (y : Int) : Bool := decide (0 < y) && decide (y < 2147483648)
noncomputable def fdivOk (y : Int) : Bool := decide (0 < y) && decide (y < 1073741824)
noncomputable def tup? : V → Option (List D)
  | .d (.tup l) => some l
  | _ => Option.none
noncomputable def lst? : V → Option (List D)
  | .d (.list l) => some l
  | _ => Option.none
noncomputable def bool? : V → Option Bool
  | .d (.bool b) => some b
  | _ => Option.none
noncomputable def R.opt {α β : Type} (o : Option α) (f : α → R β) : R β := Option.casesOn (motive := fun _ => R β) o .bad f
noncomputable def int2 (a b : V) (f : Int → Int → R V) : R V := R.opt (int? a) fun x => R.opt (int? b) fun y => f x y
noncomputable def addV (a b : V) (H : Hp) : R V := match a with
  | .d (.int x) => R.opt (int? b) fun y => retI (x + y) H
  | .d (.str x) => R.opt (str? b) fun y => R.guard (decide (x.length + y.length ≤ line)) (retS (x ++ y) H)
  | .d (.tup x) => R.opt (tup? b) fun y => R.guard (decide (x.length + y.length ≤ line)) (.ok (.d (.tup (x ++ y))) H)
  | a => R.opt (listOf H a) fun x => R.opt (listOf H b) fun y => R.guard (decide (x.length + y.length ≤ line)) (.ok (.d (.list (x ++ y))) H)
noncomputable def mulV (a : V) (y : Int) (H : Hp) : R V := match a with
  | .d (.int x) => R.guard (smallI x || smallI y) (retI (x * y) H)
  | .d (.str x) => R.guard (decide (0 ≤ y) && decide (y ≤ 16) && decide (x.length ≤ 16)) (retS (Txt.mul x y) H)
  | a => R.opt (listOf H a) fun x => R.guard (decide (0 ≤ y) && decide (y ≤ 16) && decide (x.length ≤ 16)) (.ok (.d (.list (List.replicate y.toNat x).flatten)) H)
noncomputable def binV (op : Operator) (a b : V) (H : Hp) : R V :=
  match op with
  | .Add => addV a b H
  | .Sub => int2 a b fun x y => retI (x - y) H
  | .Mult => R.opt (int? b) fun y => mulV a y H
  | .FloorDiv => int2 a b fun x y => R.guard (fdivOk y) (retI (x.fdiv y) H)
  | .Mod => int2 a b fun x y => R.guard (divOk y) (retI (x.fmod y) H)
  | .Pow => int2 a b fun x y => R.guard (decide (x = 10) && decide (y = 18)) (retI 1000000000000000000 H)
  | _ => .bad
noncomputable def inSeq (x : Str) (l : List D) : Option Bool := (strsOf l).map fun ss => ss.any (· == x)
noncomputable def empt : List D → List D → Option Bool
  | [], y => some y.isEmpty
  | _ :: _, [] => some false
  | _ :: _, _ :: _ => Option.none
noncomputable def eqV (a b : V) (H : Hp) : Option Bool := match a with
  | .d (.int x) => (int? b).map fun y => decide (x = y)
  | .d (.str x) => (str? b).map fun y => decide (x = y)
  | .d (.bool x) => (bool? b).map fun y => x == y
  | .d (.tup x) => (tup? b).bind (empt x)
  | .d (.list x) => (lst? b).bind (empt x)
  | _ => Option.none
noncomputable def one? (l : List Nat) : Option Nat := match l with
  | [c] => some c
  | _ => Option.none
noncomputable def inV (a b : V) : Option Bool := (str? a).bind fun x => match b with
  | .d (.tup l) => inSeq x l
  | .d (.list l) => inSeq x l
  | .d (.str y) => (one? x.cps.toList).map fun c => y.cps.toList.contains c
  | _ => Option.none
noncomputable def none? : V → Option Unit
  | .d .none => some ()
  | _ => Option.none
noncomputable def isNoneV (a b : V) : Option Bool := (none? b).bind fun _ => match a with
  | .d .none => some true
  | .d (.int _) => some false
  | .d (.str _) => some false
  | _ => Option.none
noncomputable def intCmp (f : Int → Int → Bool) (a b : V) : Option Bool := (int? a).bind fun x => (int? b).map fun y => f x y
noncomputable def cmpV (op : CmpOp) (a b : V) (H : Hp) : Option Bool := match op with
  | .Eq => eqV a b H
  | .NotEq => (str? a).bind fun x => (str? b).map fun y => !decide (x = y)
  | .Lt => intCmp (fun x y => decide (x < y)) a b
  | .LtE => intCmp (fun x y => decide (x ≤ y)) a b
  | .Gt => intCmp (fun x y => decide (y < x)) a b
  | .GtE => intCmp (fun x y => decide (y ≤ x)) a b
  | .Is => isNoneV a b
  | .IsNot => (isNoneV a b).map (!·)
  | .In => inV a b
  | .NotIn => (inV a b).map (!·)
noncomputable def augV (op : Operator) (a b : V) (H : Hp) : R V := match op with
  | .Add => int2 a b fun x y => retI (x + y) H
  | .Sub => int2 a b fun x y => retI (x - y) H
  | _ => .bad
noncomputable def optR {α : Type} (x : Option α) (H : Hp) : R α := match x with
  | some a => .ok a H
  | Option.none => .bad
noncomputable def idxO (o : V) (k : Nat) (H : Hp) : R V := match o with
  | .d (.tup l) => R.opt l[k]? fun x => .ok (.d x) H
  | .d (.str s) => R.opt s.cps.toList[k]? fun c => retS ⟨#[c]⟩ H
  | o => R.opt (listOf H o) fun l => R.opt l[k]? fun x => .ok (.d x) H
noncomputable def idxV (o i : V) (H : Hp) : R V := R.opt (int? i) fun k => R.guard (decide (0 ≤ k) && decide (k < 9223372036854775808)) (idxO o k.toNat H)
noncomputable def slV (o lo : V) (H : Hp) : R V := R.opt (tup? o) fun l => R.opt (int? lo) fun k => R.guard (decide (0 < k) && decide (k ≤ l.length) && decide (l.length ≤ 1000)) (.ok (.d (.tup (l.drop k.toNat))) H)
mutual
noncomputable def toPy : D → PyData
  | .none => .none
  | .bool b => .bool b
  | .int i => .int i
  | .str s => .str s
  | .tup l => .tuple (toPys l)
  | .list l => .list (toPys l)
  | .gv _ => .none
  | .rng _ => .none
noncomputable def toPys : List D → List PyData
  | [] => []
  | x :: r => toPy x :: toPys r
end
noncomputable def reprD (d : D) : Str := (toPy d).shown
mutual
noncomputable def reprOk : D → Bool
  | .none => true
  | .bool _ => true
  | .int i => decide (i.natAbs < 1000000000000000000)
  | .str s => decide (s.length ≤ 1000)
  | .tup l => reprOks l
  | .list l => reprOks l
  | .gv _ => false
  | .rng _ => false
noncomputable def reprOks : List D → Bool
  | [] => true
  | x :: r => reprOk x && reprOks r
end
noncomputable def lenV (v : V) (H : Hp) : R V := match v with
  | .d (.str s) => R.guard (decide (s.length ≤ line)) (retI s.length H)
  | .d (.tup l) => R.guard (decide (l.length ≤ line)) (retI l.length H)
  | v => R.opt (listOf H v) fun l => R.guard (decide (l.length ≤ line)) (retI l.length H)
noncomputable def intV (v : V) (H : Hp) : R V := match v with
  | .d (.int a) => retI a H
  | .d (.bool b) => retI (if b then 1 else 0) H
  | .d (.str s) => R.opt (PySem.intText? s) fun n => R.guard (decide (s.length ≤ 640)) (retI n H)
  | _ => .bad
noncomputable def tupV (v : V) (H : Hp) : R V := match v with
  | .d (.tup l) => .ok (.d (.tup l)) H
  | v => R.opt (listOf H v) fun l => R.guard (decide (l.length ≤ 16384)) (.ok (.d (.tup l)) H)
noncomputable def repV (v : V) (H : Hp) : R V := match v with
  | .d x => R.guard (reprOk x && decide ((reprD x).length ≤ line) && decide ((toPy x).depth ≤ 500)) (retS (reprD x) H)
  | _ => .bad
noncomputable def blt1 (g : Nat) (v : V) (H : Hp) : R V := match g with
  | 0 => lenV v H
  | 3 => intV v H
  | 4 => tupV v H
  | 5 => R.opt (listOf H v) fun l => R.guard (decide (l.length ≤ 16384)) (.ok (.d (.list l)) H)
  | 6 => repV v H
  | 7 => R.opt (int? v) fun n => R.guard (smallI n) (retS (Str.ofString (toString n)) H)
  | 8 => R.opt (int? v) fun n => R.guard (decide (0 ≤ n) && decide (n ≤ 1000000)) (.ok (.d (.rng n)) H)
  | _ => .bad
noncomputable def blt2 (g : Nat) (v w : V) (H : Hp) : R V := match g with
  | 1 => int2 v w fun a b => retI (if b < a then b else a) H
  | 2 => int2 v w fun a b => retI (if a < b then b else a) H
  | _ => .bad
noncomputable def bltn (g : Nat) (vs : List V) (H : Hp) : R V := match vs with
  | [v] => blt1 g v H
  | [v, w] => blt2 g v w H
  | _ => .bad
noncomputable def strMeth (m : Nat) (s : Str) (vs : List V) (H : Hp) : R V := match m with
  | 12 => match vs with
    | [v] => R.opt (listOf H v) fun l => R.opt (strsOf l) fun ss => R.guard (JoinOk s ss) (retS (Txt.join s ss) H)
    | _ => .bad
  | 13 => match vs with
    | [] => .ok (.d (.bool (Txt.isalpha s))) H
    | _ => .bad
  | 14 => match vs with
    | [v] => R.opt (str? v) fun y => R.guard (decide (s.length ≤ 1000000) && decide (0 < y.length) && decide ((Txt.split s y).length ≤ line)) (.ok (.d (.list ((Txt.split s y).map .str))) H)
    | _ => .bad
  | _ => .bad
noncomputable def nextItem (H : Hp) (v : V) (i : Nat) : Option (Option D) := match v with
  | .d (.tup l) => some l[i]?
  | .d (.list l) => some l[i]?
  | .d (.str s) => if s.cps.all (· < 128) then some (s.cps[i]?.map fun c => D.str ⟨#[c]⟩) else Option.none
  | .d (.rng n) => if decide (0 ≤ n) && decide (n ≤ 1000000) then some (if (i : Int) < n then some (.int i) else Option.none) else Option.none
  | .loc j => match H[j]? with
    | some (.list l) => some l[i]?
    | _ => Option.none
  | _ => Option.none
noncomputable def evalL (f : Ex → Hp → R V) : List Ex → Hp → R (List V)
  | [], H => .ok [] H
  | e :: r, H => (f e H).bind fun v H => (evalL f r H).bind fun vs H => .ok (v :: vs) H
noncomputable def boolV (v : V) (H : Hp) : R Bool := match v with
  | .d (.bool b) => .ok b H
  | _ => .bad
noncomputable def boolL (f : Ex → Hp → R V) (a : Bool) : List Ex → Hp → R V
  | [], _ => .bad
  | [e], H => f e H
  | e :: e' :: r, H => (f e H).bind fun v H => (boolV v H).bind fun b H => if b == a then boolL f a (e' :: r) H else .ok v H
noncomputable def allT (f : Ex → Hp → R Bool) (a : Bool) : List Ex → Hp → R Bool
  | [], H => .ok a H
  | e :: r, H => (f e H).bind fun b H => if b == a then allT f a r H else .ok b H
noncomputable def execL (f : Loc → St → Hp → R (Fl × Loc)) : List St → Loc → Hp → R (Fl × Loc)
  | [], loc, H => .ok (.next, loc) H
  | s :: r, loc, H => (f loc s H).bind fun x H => match x.1 with
    | .next => execL f r x.2 H
    | fl => .ok (fl, x.2) H
noncomputable def whileL (t : Loc → Hp → R Bool) (b : Loc → Hp → R (Fl × Loc)) : Nat → Loc → Hp → R (Fl × Loc)
  | 0, _, _ => .bad
  | k + 1, loc, H => (t loc H).bind fun c H => if c then (b loc H).bind fun x H => match x.1 with
      | .next => whileL t b k x.2 H
      | .cont => whileL t b k x.2 H
      | .brk => .ok (.next, x.2) H
      | .ret v => .ok (.ret v, x.2) H
    else .ok (.next, loc) H
noncomputable def forL (src : V) (b : D → Loc → Hp → R (Fl × Loc)) : Nat → Nat → Loc → Hp → R (Fl × Loc)
  | 0, _, _, _ => .bad
  | k + 1, i, loc, H => match nextItem H src i with
    | Option.none => .bad
    | some Option.none => .ok (.next, loc) H
    | some (some x) => (b x loc H).bind fun y H => match y.1 with
      | .next => forL src b k (i + 1) y.2 H
      | .cont => forL src b k (i + 1) y.2 H
      | .brk => .ok (.next, y.2) H
      | .ret v => .ok (.ret v, y.2) H
noncomputable def compL (src : V) (f : D → Hp → R (Option D)) (j : Nat) : Nat → Nat → Hp → R Unit
  | 0, _, _ => .bad
  | k + 1, i, H => match nextItem H src i with
    | Option.none => .bad
    | some Option.none => .ok () H
    | some (some x) => (f x H).bind fun y H => match y with
      | Option.none => compL src f j k (i + 1) H
      | some d => match H[j]? with
        | some (.list l) => R.guard (decide (l.length < 16000)) (compL src f j k (i + 1) (H.set j (.list (l ++ [d]))))
        | _ => .bad
noncomputable def compEnd (j : Nat) (H : Hp) : R V := match H[j]? with
  | some (.list l) => R.guard (decide (H.length = j + 1)) (.ok (.d (.list l)) (H.take j))
  | _ => .bad
noncomputable def compOk (ks cks : List (Nat × NameKind)) : Bool := cks.all fun x => match x.2 with
  | .cell => false
  | .local => decide (cks.lookup x.1 = some .local)
  | .free => decide (ks.lookup x.1 = some .cell) || decide (ks.lookup x.1 = some .free)
  | _ => true
noncomputable def setLoc (loc : Loc) (n : Nat) (v : V) : Loc := match loc with
  | [] => [(n, v)]
  | (m, w) :: r => if m = n then (n, v) :: r else (m, w) :: setLoc r n v
noncomputable def isStore (ks : Ks) (n : Nat) : Bool := match ks.lookup n with
  | some .local => true
  | some .cell => true
  | _ => false
noncomputable def setLocs (ks : Ks) : List Nat → List V → Loc → Option Loc
  | [], vs, loc => match vs with
    | [] => some loc
    | _ :: _ => Option.none
  | n :: ns, vs, loc => match vs with
    | [] => Option.none
    | v :: vs => if isStore ks n then setLocs ks ns vs (setLoc loc n v) else Option.none
noncomputable def setField (fs : List (Nat × D)) (a : Nat) (d : D) : List (Nat × D) := match fs with
  | [] => [(a, d)]
  | (m, w) :: r => if m = a then (a, d) :: r else (m, w) :: setField r a d
noncomputable def nmV (T : Tab) (ks : Ks) (loc : Loc) (n : Nat) (H : Hp) : R V := match loc.lookup n with
  | some v => .ok v H
  | Option.none => match ks.lookup n with
    | some .globalImplicit => match T.const n with
      | some d => .ok (.d d) H
      | Option.none => .bad
    | _ => .bad
noncomputable def callable (T : Tab) : V → Bool
  | .d (.gv g) => decide (g ≤ 9) || (T.fn g).isSome
  | _ => false
noncomputable def bindP (f : Fn) (vs : List V) : Option Loc :=
  if vs.length = f.params.length then some (f.params.zip vs)
  else if vs.length + f.dflts.length = f.params.length then some (f.params.zip (vs ++ f.dflts.map .d))
  else Option.none
noncomputable def leaveF (n : Nat) (x : R (Fl × Loc)) : R V := match x with
  | .bad => .bad
  | .exc m sp H => .exc m sp (H.take n)
  | .ok (.ret (.d d), _) H => .ok (.d d) (H.take n)
  | .ok (.ret (.loc i), _) H => if i < n then .ok (.loc i) (H.take n) else match H[i]? with
    | some o => .ok (.loc n) (H.take n ++ [o])
    | Option.none => .bad
  | .ok (.next, _) H => .ok (.d .none) (H.take n)
  | .ok _ _ => .bad
noncomputable def tgNames : Tg → List Nat
  | .one n => [n]
  | .two ns => ns
noncomputable def tgVals (t : Tg) (d : D) : Option (List V) := match t with
  | .one _ => some [.d d]
  | .two ns => match d with
    | .tup l => if l.length = ns.length then some (l.map .d) else Option.none
    | _ => Option.none
noncomputable def freeOf (ks : Ks) (loc : Loc) : Loc := loc.filter fun x => match ks.lookup x.1 with
  | some .free => true
  | _ => false
noncomputable def LK : Nat := 100000
noncomputable def attrIds : List Nat := [20, 21, 22]
noncomputable def evalF (T : Tab) (N : Ks → Loc → Nat → Hp → R V) (E : Ks → Loc → Ex → Hp → R V) (S : Ks → Loc → Ex → Hp → R Bool) (A : V → List V → Hp → R V) (C : Nat → List V → Hp → R V) (B : Operator → V → V → Hp → R V) (I L : V → V → Hp → R V)
    (M : Nat → Str → List V → Hp → R V) (G : Ks → List Nat → List V → Loc → Option Loc) (ks : Ks) (loc : Loc) (e : Ex) (H : Hp) : R V := match e with
    | .bad => .bad
    | .none => .ok (.d .none) H
    | .bool b => .ok (.d (.bool b)) H
    | .int i => .ok (.d (.int i)) H
    | .str s => .ok (.d (.str s)) H
    | .nm x => N ks loc x H
    | .bop a es => boolL (E ks loc) a es H
    | .not e => (E ks loc e H).bind fun v H => (boolV v H).bind fun b H => .ok (.d (.bool !b)) H
    | .neg e => (E ks loc e H).bind fun v H => match v with
      | .d (.int i) => retI (-i) H
      | _ => .bad
    | .bin op l r => (E ks loc l H).bind fun a H => (E ks loc r H).bind fun b H => B op a b H
    | .ite t b o => (S ks loc t H).bind fun c H => if c then E ks loc b H else E ks loc o H
    | .tup es => (evalL (E ks loc) es H).bind fun vs H => match dats vs with
      | some ds => R.guard (decide (ds.length ≤ 1000)) (.ok (.d (.tup ds)) H)
      | Option.none => .bad
    | .list mu es => (evalL (E ks loc) es H).bind fun vs H => match dats vs with
      | some ds => R.guard (decide (ds.length ≤ 1000)) (if mu then .ok (.loc H.length) (H ++ [.list ds]) else .ok (.d (.list ds)) H)
      | Option.none => .bad
    | .cmp op l r => (E ks loc l H).bind fun a H => (E ks loc r H).bind fun b H => (optR (cmpV op a b H) H).bind fun c H => .ok (.d (.bool c)) H
    | .call f args => (N ks loc f H).bind fun fv H => R.guard (callable T fv) ((evalL (E ks loc) args H).bind fun vs H => A fv vs H)
    | .meth o m args => (E ks loc o H).bind fun ov H => match ov with
      | .loc i => match H[i]? with
        | some (.list _) => if m = 11 then (evalL (E ks loc) args H).bind fun vs H => match vs, H[i]? with
            | [.d x], some (.list l) => R.guard (decide (l.length < 16000)) (.ok (.d .none) (H.set i (.list (l ++ [x]))))
            | _, _ => .bad
          else .bad
        | some (.inst fs) => match T.meth m, fs.lookup m with
          | some f, Option.none => (evalL (E ks loc) args H).bind fun vs H => C f (.loc i :: vs) H
          | _, _ => .bad
        | _ => .bad
      | .d (.str s) => R.guard (m == 12 || m == 13 || m == 14) ((evalL (E ks loc) args H).bind fun vs H => M m s vs H)
      | _ => .bad
    | .attr o a => (E ks loc o H).bind fun ov H => match ov with
      | .loc i => match H[i]? with
        | some (.inst fs) => match fs.lookup a with
          | some d => R.guard (attrIds.contains a) (.ok (.d d) H)
          | Option.none => .bad
        | _ => .bad
      | _ => .bad
    | .idx o i => (E ks loc o H).bind fun ov H => (E ks loc i H).bind fun iv H => I ov iv H
    | .sl o lo => (E ks loc o H).bind fun ov H => (E ks loc lo H).bind fun iv H => L ov iv H
    | .comp elt tg iter conds cks => R.guard (compOk ks cks) ((E ks loc iter H).bind fun src H =>
        (compL src (fun x H => match tgVals tg x with
          | Option.none => .bad
          | some vs => match G cks (tgNames tg) vs (freeOf cks loc) with
            | Option.none => .bad
            | some cloc => (allT (S cks cloc) true conds H).bind fun c H => if c then (E cks cloc elt H).bind fun v H => match v with
                | .d d => .ok (some d) H
                | .loc _ => .bad
              else .ok Option.none H) H.length LK 0 (H ++ [.list []])).only.bind fun _ H' => compEnd H.length H')
noncomputable def testF (E : Ks → Loc → Ex → Hp → R V) (S : Ks → Loc → Ex → Hp → R Bool) (ks : Ks) (loc : Loc) (e : Ex) (H : Hp) : R Bool := match e with
    | .not e => (S ks loc e H).bind fun b H => .ok (!b) H
    | .bop a es => allT (S ks loc) a es H
    | .cmp op l r => (E ks loc l H).bind fun a H => (E ks loc r H).bind fun b H => optR (cmpV op a b H) H
    | .ite t b o => (S ks loc t H).bind fun c H => if c then S ks loc b H else S ks loc o H
    | e => (E ks loc e H).bind fun v H => boolV v H
noncomputable def newO (n : Nat) (v : V) (H : Hp) : R V := match v with
  | .d .none => .ok (.loc n) H
  | _ => .bad
noncomputable def applyF (T : Tab) (C : Nat → List V → Hp → R V) (Q : Nat → List V → Hp → R V) (fv : V) (vs : List V) (H : Hp) : R V := match fv with
  | .d (.gv g) => if g = 9 then R.opt (T.meth 15) fun f => (C f (.loc H.length :: vs) (H ++ [.inst []])).only.bind (newO H.length) else if g < 9 then Q g vs H else C g vs H
  | _ => .bad
noncomputable def execF (E : Ks → Loc → Ex → Hp → R V) (S : Ks → Loc → Ex → Hp → R Bool) (X : Ks → Loc → St → Hp → R (Fl × Loc)) (G : Ks → List Nat → List V → Loc → Option Loc) (Z : Loc → Nat → V → Loc) (J : Ks → Nat → Bool)
    (ks : Ks) (loc : Loc) (s : St) (H : Hp) : R (Fl × Loc) := match s with
    | .bad => .bad
    | .expr e => (E ks loc e H).bind fun _ H => .ok (.next, loc) H
    | .asg x e => (E ks loc e H).bind fun v H => R.guard (J ks x) (.ok (.next, Z loc x v) H)
    | .asgT ns rev e => (E ks loc e H).bind fun v H => match v with
      | .d (.tup l) => match (if rev then G ks ns.reverse (l.map V.d).reverse loc else G ks ns (l.map V.d) loc) with
        | some loc' => .ok (.next, loc') H
        | Option.none => .bad
      | _ => .bad
    | .asgTT ns rev es => (evalL (E ks loc) es H).bind fun vs H => match (if rev then G ks ns.reverse vs.reverse loc else G ks ns vs loc) with
        | some loc' => .ok (.next, loc') H
        | Option.none => .bad
    | .asgA o a e => (E ks loc e H).bind fun v H => (E ks loc o H).bind fun ov H => match v, ov with
      | .d d, .loc i => match H[i]? with
        | some (.inst fs) => R.guard (attrIds.contains a && decide (fs.length < 100)) (.ok (.next, loc) (H.set i (.inst (setField fs a d))))
        | _ => .bad
      | _, _ => .bad
    | .asgS o i e => (E ks loc e H).bind fun v H => (E ks loc o H).bind fun ov H => (E ks loc i H).bind fun iv H => match v, ov, iv with
      | .d d, .loc j, .d (.int k) => match H[j]? with
        | some (.list l) => R.guard (decide (0 ≤ k) && decide (k < l.length) && decide (k < 9223372036854775808)) (.ok (.next, loc) (H.set j (.list (l.set k.toNat d))))
        | _ => .bad
      | _, _, _ => .bad
    | .augA o a op e => (E ks loc o H).bind fun ov H => match ov with
      | .loc i => match H[i]? with
        | some (.inst fs) => match fs.lookup a with
          | some d => R.guard (attrIds.contains a && decide (fs.length < 100)) ((E ks loc e H).bind fun v H => (augV op (.d d) v H).bind fun w H => match w, H[i]? with
            | .d x, some (.inst fs) => R.guard (decide (fs.length < 100)) (.ok (.next, loc) (H.set i (.inst (setField fs a x))))
            | _, _ => .bad)
          | Option.none => .bad
        | _ => .bad
      | _ => .bad
    | .ret e => (E ks loc e H).bind fun v H => .ok (.ret v, loc) H
    | .ifS t b o => (S ks loc t H).bind fun c H => if c then execL (fun loc s H => X ks loc s H) b loc H else execL (fun loc s H => X ks loc s H) o loc H
    | .whl t b => whileL (fun loc H => S ks loc t H) (fun loc H => execL (fun loc s H => X ks loc s H) b loc H) LK loc H |>.only
    | .for_ x iter b => (E ks loc iter H).bind fun src H => R.guard (J ks x)
        (forL src (fun d loc H => execL (fun loc s H => X ks loc s H) b (Z loc x (.d d)) H) LK 0 loc H).only
    | .raise m s => (E ks loc m H).bind fun mv H => (E ks loc s H).bind fun sv H => match mv, sv with
      | .d (.str m), .d sp => .exc m sp H
      | _, _ => .bad
    | .try_ e => R.guard (loc.lookup 18).isNone (match E ks loc e H with
      | .exc m sp H' => .ok (.ret (.d (.list [.str m, sp])), loc) H'
      | .ok v H' => .ok (.ret v, loc) H'
      | .bad => .bad)
    | .brk => .ok (.brk, loc) H
mutual
noncomputable def evalE (T : Tab) : Nat → Ks → Loc → Ex → Hp → R V
  | 0, _, _, _, _ => .bad
  | n + 1, ks, loc, e, H => evalF T (nmV T) (evalE T n) (testE T n) (applyV T n) (callF T n) binV idxV slV strMeth setLocs ks loc e H
noncomputable def testE (T : Tab) : Nat → Ks → Loc → Ex → Hp → R Bool
  | 0, _, _, _, _ => .bad
  | n + 1, ks, loc, e, H => testF (evalE T n) (testE T n) ks loc e H
noncomputable def applyV (T : Tab) : Nat → V → List V → Hp → R V
  | 0, _, _, _ => .bad
  | n + 1, fv, vs, H => applyF T (callF T n) bltn fv vs H
noncomputable def callF (T : Tab) : Nat → Nat → List V → Hp → R V
  | 0, _, _, _ => .bad
  | n + 1, g, vs, H => match T.fn g with
    | some f => match bindP f vs with
      | some loc => leaveF H.length (execL (fun loc s H => exec T n f.ks loc s H) f.body loc H)
      | Option.none => .bad
    | Option.none => .bad
noncomputable def exec (T : Tab) : Nat → Ks → Loc → St → Hp → R (Fl × Loc)
  | 0, _, _, _, _ => .bad
  | n + 1, ks, loc, s, H => execF (evalE T n) (testE T n) (exec T n) setLocs setLoc isStore ks loc s H
end
noncomputable def muNames : List Nat := [38, 20, 93]
noncomputable def nameP : (e : Expr) → Option { x : Str // ∃ p, e = .Name x p }
  | .Name x p => some ⟨x, p, rfl⟩
  | _ => Option.none
noncomputable def tupP : (e : Expr) → Option { es : List Expr // ∃ c p, e = .Tuple es c p }
  | .Tuple es c p => some ⟨es, c, p, rfl⟩
  | _ => Option.none
noncomputable def listP : (e : Expr) → Option { es : List Expr // ∃ p, e = .List es p }
  | .List es p => some ⟨es, p, rfl⟩
  | _ => Option.none
noncomputable def attP : (e : Expr) → Option { x : Expr × Str × Pos // e = .Attribute x.1 x.2.1 x.2.2 }
  | .Attribute o m q => some ⟨(o, m, q), rfl⟩
  | _ => Option.none
noncomputable def slP : (e : Expr) → Option { x : Option Expr × Option Expr × Option Expr // ∃ p, e = .Slice x.1 x.2.1 x.2.2 p }
  | .Slice a b c p => some ⟨(a, b, c), p, rfl⟩
  | _ => Option.none
noncomputable def callP : (e : Expr) → Option { x : Expr × List Expr × List Keyword × Pos // e = .Call x.1 x.2.1 x.2.2.1 x.2.2.2 }
  | .Call g es ks p => some ⟨(g, es, ks, p), rfl⟩
  | _ => Option.none
noncomputable def retP : (s : Stmt) → Option { x : Option Expr // ∃ p, s = .Return x p }
  | .Return x p => some ⟨x, p, rfl⟩
  | _ => Option.none
noncomputable def oneP {α : Type} : (l : List α) → Option { x : α // l = [x] }
  | [] => Option.none
  | x :: r => match r with
    | [] => some ⟨x, rfl⟩
    | _ :: _ => Option.none
noncomputable def twoP {α : Type} (l : List α) : Option { x : α × α // l = [x.1, x.2] } := match l with
  | [] => Option.none
  | x :: r => (oneP r).map fun y => ⟨(x, y.1), congrArg (x :: ·) y.2⟩
noncomputable def scopeP : (sc : Scope) → Option { x : List (Str × NameKind) × List (Str × Const) // sc = ⟨.function, x.1, false, false, x.2⟩ }
  | ⟨.function, names, false, false, more⟩ => some ⟨(names, more), rfl⟩
  | _ => Option.none
noncomputable def optE {α : Type} (o : Option α) (k : α → Ex) : Ex := o.elim .bad k
noncomputable def guE (c : Bool) (x : Ex) : Ex := cond c .bad x
noncomputable def guT (c : Bool) (x : Ex) : Ex := cond c x .bad
noncomputable def optS {α : Type} (o : Option α) (k : α → St) : St := o.elim .bad k
noncomputable def guS (c : Bool) (x : St) : St := cond c .bad x
noncomputable def guR (c : Bool) (x : St) : St := cond c x .bad
noncomputable def rName (f : Str → Option Nat) (e : Expr) : Option Nat := (nameP e).bind fun v => f v.1
noncomputable def rNames (f : Str → Option Nat) : List Expr → Option (List Nat)
  | [] => some []
  | e :: r => (rName f e).bind fun n => (rNames f r).map (n :: ·)
noncomputable def rKs (f : Str → Option Nat) : List (Str × NameKind) → Option Ks
  | [] => some []
  | x :: r => (f x.1).bind fun n => (rKs f r).map ((n, x.2) :: ·)
noncomputable def rScope (f : Str → Option Nat) (sc : Scope) : Option Ks := (scopeP sc).bind fun v => rKs f v.1.1
noncomputable def rTg (f : Str → Option Nat) (e : Expr) : Option Tg := (nameP e).elim ((tupP e).bind fun v => (rNames f v.1).map .two) fun v => (f v.1).map .one
noncomputable def isComp (e : Expr) : Bool := Nat.ble 8 e.ctorIdx && Nat.ble e.ctorIdx 10
set_option backward.match.sparseCases true in
noncomputable def isStar : Expr → Bool
  | .Starred .. => true
  | _ => false
noncomputable def isSetE (e : Expr) : Bool := Nat.beq e.ctorIdx 7
noncomputable def isTup (e : Expr) : Bool := Nat.beq e.ctorIdx 25
noncomputable def attrO (e : Expr) : Bool := Nat.beq e.ctorIdx 23 || (Nat.beq e.ctorIdx 19 || Nat.beq e.ctorIdx 21)
noncomputable def rConst : Const → Ex
  | .none => .none
  | .bool b => .bool b
  | .int i => .int i
  | .str s => .str s
  | _ => .bad
noncomputable def rUn (op : UnaryOp) (e : Ex) : Ex := match op with
  | .Not => .not e
  | .USub => .neg e
  | _ => .bad
noncomputable def rCmp (E : Expr → Ex) (l : Expr) (ops : List CmpOp) (rs : List Expr) : Ex := optE (oneP ops) fun op => optE (oneP rs) fun r => guE (isSetE r.1) (.cmp op.1 (E l) (E r.1))
noncomputable def rCall (f : Str → Option Nat) (E : Expr → Ex) (g : Expr) (args : List Expr) (ks : List Keyword) (pos : Pos) : Ex := guT ks.isEmpty (guE (args.any isStar) ((nameP g).elim
  (optE (attP g) fun v => optE (f v.1.2.1) fun n => guT (v.1.2.2.endLine == pos.line) (guT (decide (args.length < 20)) (guT (attrO v.1.1) (.meth (E v.1.1) n (args.map E)))))
  fun v => optE (f v.1) fun n => .call n (args.map E)))
noncomputable def rSub (E : Expr → Ex) (o i : Expr) : Ex := (slP i).elim (.idx (E o) (E i)) fun v => optE v.1.1 fun lo => guT (v.1.2.1.isNone && v.1.2.2.isNone) (.sl (E o) (E lo))
noncomputable def rComp (f : Str → Option Nat) (E : Expr → Ex) (elt : Expr) (gens : List Comprehension) (sc : Scope) : Ex := optE (oneP gens) fun g => guT (g.1.is_async == 0) (optE (rTg f g.1.target) fun t => optE (rScope f sc) fun ks =>
  guE (isSetE g.1.iter) (.comp (E elt) t (E g.1.iter) (g.1.ifs.map E) ks))
noncomputable def erE (f : Str → Option Nat) : Nat → Expr → Ex
  | 0, _ => .bad
  | m + 1, e => match e with
    | .Constant c _ _ => rConst c
    | .Name x _ => optE (f x) .nm
    | .BoolOp op es _ => .bop (op.ctorIdx == 0) (es.map (erE f m))
    | .UnaryOp op e _ => rUn op (erE f m e)
    | .BinOp l op r _ => .bin op (erE f m l) (erE f m r)
    | .IfExp t b o _ => .ite (erE f m t) (erE f m b) (erE f m o)
    | .Tuple es _ _ => guE (es.any isStar) (.tup (es.map (erE f m)))
    | .List es _ => guE (es.any isStar) (.list false (es.map (erE f m)))
    | .Compare l ops rs _ => rCmp (fun e => erE f m e) l ops rs
    | .Call g args ks pos => rCall f (fun e => erE f m e) g args ks pos
    | .Attribute o x _ => optE (f x) fun n => optE (nameP o) fun _ => .attr (erE f m o) n
    | .Subscript o i _ => rSub (fun e => erE f m e) o i
    | .ListComp elt gens sc _ => rComp f (fun e => erE f m e) elt gens sc
    | _ => .bad
noncomputable def erMu (f : Str → Option Nat) (m : Nat) (n : Nat) (e : Expr) : Ex := (listP e).elim (erE f m e) fun v => guE (v.1.any isStar) (.list (muNames.contains n) (v.1.map (erE f m)))
noncomputable def erMus (f : Str → Option Nat) (m : Nat) : List Nat → List Expr → List Ex
  | [], es => es.map fun _ => .bad
  | n :: ns, es => match es with
    | [] => []
    | e :: es => erMu f m n e :: erMus f m ns es
noncomputable def revFin (vs : List Expr) : Option Bool :=
  if vs.all (foldedForSure 8) then some false
  else if vs.all (constantsAlone 8) then Option.none
  else some true
noncomputable def allOff : List Nat → Bool
  | [] => true
  | a :: r => !r.contains a && allOff r
noncomputable def revQ (ks : Ks) (ns : List Nat) (lines : List Nat) (vs : List Expr) : Option Bool :=
  if !(ns.length == 2 || ns.length == 3) || vs.length != ns.length then some false
  else if vs.any isStar then Option.none
  else if !(ns.all fun n => ks.lookup n == some .local) || !(lines.all fun l => l == lines.headD 0) then some false
  else if allOff ns then revFin vs else Option.none
structure TryQ where
  b : Expr
  g : Str
  e : Str
  e1 : Str
  m1 : Str
  e2 : Str
  s1 : Str
noncomputable def handP : (h : ExceptHandler) → Option { x : Option Expr × Option Str × List Stmt // ∃ p, h = .ExceptHandler x.1 x.2.1 x.2.2 p }
  | .ExceptHandler t n b p => some ⟨(t, n, b), p, rfl⟩
noncomputable def attN (e : Expr) : Option { x : Str × Str // ∃ p q, e = .Attribute (.Name x.1 p) x.2 q } := (attP e).bind fun v => (nameP v.1.1).map fun w => ⟨(w.1, v.1.2.1), w.2.elim fun p h => ⟨p, v.1.2.2, by rw [← h]; exact v.2⟩⟩
noncomputable def bodyR (b : List Stmt) : Option { e : Expr // ∃ q, b = [.Return (some e) q] } := (oneP b).bind fun s => (retP s.1).bind fun r => match hr : r.1 with
  | Option.none => Option.none
  | some e => some ⟨e, r.2.elim fun q h => ⟨q, by rw [s.2, h, hr]⟩⟩
noncomputable def tryQ (f : Str → Option Nat) (ks : Ks) (b : List Stmt) (hs : List ExceptHandler) (k : Expr → St) : St := optS (bodyR b) fun e => optS (oneP hs) fun h => optS (handP h.1) fun x => optS x.1.1 fun t => optS (nameP t) fun g => optS x.1.2.1 fun n =>
  optS (bodyR x.1.2.2) fun r => optS (listP r.1) fun l => optS (twoP l.1) fun q => optS (attN q.1.1) fun a => optS (attN q.1.2) fun c =>
  guR (f g.1 == some 10 && (f n == some 18 && (f a.1.1 == some 18 && (f c.1.1 == some 18 && (f a.1.2 == some 16 && (f c.1.2 == some 17 && (ks.lookup 18 == some .local && ks.lookup 10 == some .globalImplicit))))))) (k e.1)
noncomputable def asgTQ (f : Str → Option Nat) (ks : Ks) (m : Nat) (ts : List Expr) (e : Expr) (ns : List Nat) : St := (tupP e).elim (guS (isComp e) (.asgT ns false (erE f m e))) fun v =>
  optS (revQ ks ns (ts.map (·.pos.line)) v.1) fun rev => guR (v.1.length == ns.length) (guS (v.1.any isStar) (guR (decide (ns.length ≤ 1000)) (.asgTT ns rev (erMus f m ns v.1))))
noncomputable def raiseQ (f : Str → Option Nat) (ks : Ks) (m : Nat) (c : Expr) : St := optS (callP c) fun v => optS (nameP v.1.1) fun g => optS (twoP v.1.2.1) fun q => guR (v.1.2.2.1.isEmpty && (f g.1 == some 10 && ks.lookup 10 == some .globalImplicit))
  (guS (isStar q.1.1) (guS (isStar q.1.2) (.raise (erE f m q.1.1) (erE f m q.1.2))))
noncomputable def asgQ (f : Str → Option Nat) (ks : Ks) (m : Nat) (t : Expr) (e : Expr) : St := match t with
  | .Name x _ => optS (f x) fun n => guS (isComp e) (.asg n (erMu f m n e))
  | .Tuple ts _ _ => optS (rNames f ts) (asgTQ f ks m ts e)
  | .Attribute o x _ => optS (f x) fun n => guS (isComp e) (.asgA (erE f m o) n (erE f m e))
  | .Subscript o i _ => guS (isComp e) (.asgS (erE f m o) (erE f m i) (erE f m e))
  | _ => .bad
noncomputable def erS (f : Str → Option Nat) (ks : Ks) : Nat → Stmt → St
  | 0, _ => .bad
  | m + 1, s => match s with
    | .Expr e _ => guS (isComp e) (.expr (erE f m e))
    | .Assign ts e _ => optS (oneP ts) fun t => asgQ f ks m t.1 e
    | .AugAssign t op e _ => optS (attP t) fun v => optS (f v.1.2.1) fun n => .augA (erE f m v.1.1) n op (erE f m e)
    | .Return v _ => optS v fun e => (listP e).elim (.ret (erE f m e)) fun v => guS (v.1.any isStar) (.ret (.list true (v.1.map (erE f m))))
    | .If t b o _ => .ifS (erE f m t) (b.map (erS f ks m)) (o.map (erS f ks m))
    | .While t b o _ => guR o.isEmpty (.whl (erE f m t) (b.map (erS f ks m)))
    | .For t iter b o _ => guR o.isEmpty (optS (nameP t) fun v => optS (f v.1) fun n => guS (isSetE iter) (.for_ n (erE f m iter) (b.map (erS f ks m))))
    | .Raise e c _ => guR c.isNone (optS e (raiseQ f ks m))
    | .Try b hs o g _ => guR (o.isEmpty && g.isEmpty) (tryQ f ks b hs fun e => .try_ (erE f m e))
    | .Break _ => .brk
    | _ => .bad
theorem rName_is {f : Str → Option Nat} {e : Expr} {n : Nat} (h : rName f e = some n) : ∃ x p, e = .Name x p ∧ f x = some n :=
  (Option.bind_eq_some_iff.mp h).elim fun v h => v.2.elim fun p e => ⟨v.1, p, e, h.2⟩
theorem rNames_is {f : Str → Option Nat} {e : Expr} {r : List Expr} {ns : List Nat} (h : rNames f (e :: r) = some ns) : ∃ x p n l, e = .Name x p ∧ ns = n :: l ∧ f x = some n ∧ rNames f r = some l :=
  (Option.bind_eq_some_iff.mp h).elim fun n h => (rName_is h.1).elim fun x k => k.elim fun p k => (Option.map_eq_some_iff.mp h.2).elim fun l h => ⟨x, p, n, l, k.1, h.2.symm, k.2, h.1⟩
theorem rKs_is {f : Str → Option Nat} {x : Str × NameKind} {r : List (Str × NameKind)} {ks : Ks} (h : rKs f (x :: r) = some ks) : ∃ n l, ks = (n, x.2) :: l ∧ f x.1 = some n ∧ rKs f r = some l :=
  (Option.bind_eq_some_iff.mp h).elim fun n h => (Option.map_eq_some_iff.mp h.2).elim fun l k => ⟨n, l, k.2.symm, h.1, k.1⟩
theorem rScope_is {f : Str → Option Nat} {sc : Scope} {ks : Ks} (h : rScope f sc = some ks) : ∃ names more, sc = ⟨.function, names, false, false, more⟩ ∧ rKs f names = some ks :=
  (Option.bind_eq_some_iff.mp h).elim fun v h => ⟨_, _, v.2, h.2⟩
theorem isStore_is {ks : Ks} {n : Nat} (h : isStore ks n = true) : ks.lookup n = some .local ∨ ks.lookup n = some .cell := by
  revert h
  show (match ks.lookup n with | some .local => true | some .cell => true | _ => false) = true → _
  cases ks.lookup n with
  | none => exact fun h => nomatch h
  | some k => cases k <;> first | exact fun _ => .inl rfl | exact fun _ => .inr rfl | exact fun h => nomatch h
theorem setLocs_is {ks : Ks} {n : Nat} {ns : List Nat} {v : V} {vs : List V} {loc loc' : Loc} (h : setLocs ks (n :: ns) (v :: vs) loc = some loc') : isStore ks n = true ∧ setLocs ks ns vs (setLoc loc n v) = some loc' := by
  have h : (if isStore ks n then setLocs ks ns vs (setLoc loc n v) else Option.none) = some loc' := h
  by_cases c : isStore ks n = true
  · rw [if_pos c] at h; exact ⟨c, h⟩
  · rw [if_neg c] at h; cases h
theorem setLocs_len {ks : Ks} {ns : List Nat} : ∀ {vs : List V} {loc loc' : Loc}, setLocs ks ns vs loc = some loc' → ns.length = vs.length := by
  induction ns with
  | nil => intro vs loc loc' h; cases vs with | nil => rfl | cons => cases h
  | cons a ns ih =>
    intro vs loc loc' h
    cases vs with
    | nil => cases h
    | cons v vs => exact congrArg (· + 1) (ih (setLocs_is h).2)
theorem nextItem_loc {H : Hp} {j i : Nat} {r : Option D} (h : nextItem H (.loc j) i = some r) : ∃ l, H[j]? = some (.list l) ∧ r = l[i]? := by
  revert h
  show (match H[j]? with | some (.list l) => some l[i]? | _ => Option.none) = some r → _
  cases H[j]? with
  | none => exact fun h => nomatch h
  | some o =>
    cases o with
    | list l => exact fun h => ⟨l, rfl, (Option.some.inj h).symm⟩
    | inst => exact fun h => nomatch h
theorem forL_succ (src : V) (b : D → Loc → Hp → R (Fl × Loc)) (k i : Nat) (loc : Loc) (H : Hp) : forL src b (k + 1) i loc H = match nextItem H src i with
    | Option.none => .bad
    | some Option.none => .ok (.next, loc) H
    | some (some x) => (b x loc H).bind fun y H => match y.1 with
      | .next => forL src b k (i + 1) y.2 H
      | .cont => forL src b k (i + 1) y.2 H
      | .brk => .ok (.next, y.2) H
      | .ret v => .ok (.ret v, y.2) H := rfl
theorem compL_succ (src : V) (f : D → Hp → R (Option D)) (j k i : Nat) (H : Hp) : compL src f j (k + 1) i H = match nextItem H src i with
    | Option.none => .bad
    | some Option.none => .ok () H
    | some (some x) => (f x H).bind fun y H => match y with
      | Option.none => compL src f j k (i + 1) H
      | some d => match H[j]? with
        | some (.list l) => R.guard (decide (l.length < 16000)) (compL src f j k (i + 1) (H.set j (.list (l ++ [d]))))
        | _ => .bad := rfl
theorem iteN {α : Type} {c : Prop} [Decidable c] {x : α} {r : α} (h : (if c then some x else Option.none) = some r) : c ∧ x = r := by
  by_cases q : c
  · rw [if_pos q] at h; exact ⟨q, Option.some.inj h⟩
  · rw [if_neg q] at h; cases h
end Mine
end
section
namespace Mine
open PySem
noncomputable def names : List String := ["len", "min", "max", "int", "tuple", "list", "repr", "str", "range", "Words", "GrammarFault", "append", "join", "isalpha", "split", "__init__", "message", "spot", "fault", "self", "rows", "at", "deep", "deeper", "MOST_DEEP", "peek", "shallower", "ahead", "take", "word", "looks", "text", "expect", "name", "KEYWORDS", "read_spath", "words", "is_expr", "found", "read_segment", "row", ".0", "read_path_name", "read_arguments", "PATH_WORDS", "is_plain_name", "read_pattern", "read_part", "read_shallow_part", "read_ref_pattern", "read_paren_pattern", "read_number", "read_binding", "is_alone", "read_variant", "sign", "is_mut", "is_held", "begin", "inner", "is_tuple", "read_whole", "is_below", "low", "is_ref", "path", "fields", "has_rest", "read_places", "read_fields", "read_field", "told", "_law_pool", "script", "k", "cell", "big", "mixed", "_law_take", "source", "top", "drawn", "_law_one", "things", "_law_word", "figures", "_law_words", "part", "_law_heard", "reader", "_law_is", "due", "_law_written", "spots", "_law_part", "way", "number", "_law_pattern", "is_ahead", "many", "trees", "turn", "more", "tree", "_law_row", "is_last", "lack", "_law_spotted", "_law_names_right", "_law_refs_right", "is_shut", "_law_parens_right", "is_call", "_law_wholes_right", "_law_variants_right", "_law_told_right", "law"]
noncomputable def namesL : List (List Nat) := [[108, 101, 110], [109, 105, 110], [109, 97, 120], [105, 110, 116], [116, 117, 112, 108, 101], [108, 105, 115, 116], [114, 101, 112, 114], [115, 116, 114], [114, 97, 110, 103, 101], [87, 111, 114, 100, 115], [71, 114, 97, 109, 109, 97, 114, 70, 97, 117, 108, 116], [97, 112, 112, 101, 110, 100], [106, 111, 105, 110], [105, 115, 97, 108, 112, 104, 97], [115, 112, 108, 105, 116], [95, 95, 105, 110, 105, 116, 95, 95], [109, 101, 115, 115, 97, 103, 101], [115, 112, 111, 116], [102, 97, 117, 108, 116], [115, 101, 108, 102], [114, 111, 119, 115], [97, 116], [100, 101, 101, 112], [100, 101, 101, 112, 101, 114], [77, 79, 83, 84, 95, 68, 69, 69, 80], [112, 101, 101, 107], [115, 104, 97, 108, 108, 111, 119, 101, 114], [97, 104, 101, 97, 100], [116, 97, 107, 101], [119, 111, 114, 100], [108, 111, 111, 107, 115], [116, 101, 120, 116], [101, 120, 112, 101, 99, 116], [110, 97, 109, 101], [75, 69, 89, 87, 79, 82, 68, 83], [114, 101, 97, 100, 95, 115, 112, 97, 116, 104], [119, 111, 114, 100, 115], [105, 115, 95, 101, 120, 112, 114], [102, 111, 117, 110, 100], [114, 101, 97, 100, 95, 115, 101, 103, 109, 101, 110, 116], [114, 111, 119], [46, 48], [114, 101, 97, 100, 95, 112, 97, 116, 104, 95, 110, 97, 109, 101], [114, 101, 97, 100, 95, 97, 114, 103, 117, 109, 101, 110, 116, 115], [80, 65, 84, 72, 95, 87, 79, 82, 68, 83], [105, 115, 95, 112, 108, 97, 105, 110, 95, 110, 97, 109, 101], [114, 101, 97, 100, 95, 112, 97, 116, 116, 101, 114, 110], [114, 101, 97, 100, 95, 112, 97, 114, 116], [114, 101, 97, 100, 95, 115, 104, 97, 108, 108, 111, 119, 95, 112, 97, 114, 116], [114, 101, 97, 100, 95, 114, 101, 102, 95, 112, 97, 116, 116, 101, 114, 110], [114, 101, 97, 100, 95, 112, 97, 114, 101, 110, 95, 112, 97, 116, 116, 101, 114, 110], [114, 101, 97, 100, 95, 110, 117, 109, 98, 101, 114], [114, 101, 97, 100, 95, 98, 105, 110, 100, 105, 110, 103], [105, 115, 95, 97, 108, 111, 110, 101], [114, 101, 97, 100, 95, 118, 97, 114, 105, 97, 110, 116], [115, 105, 103, 110], [105, 115, 95, 109, 117, 116], [105, 115, 95, 104, 101, 108, 100], [98, 101, 103, 105, 110], [105, 110, 110, 101, 114], [105, 115, 95, 116, 117, 112, 108, 101], [114, 101, 97, 100, 95, 119, 104, 111, 108, 101], [105, 115, 95, 98, 101, 108, 111, 119], [108, 111, 119], [105, 115, 95, 114, 101, 102], [112, 97, 116, 104], [102, 105, 101, 108, 100, 115], [104, 97, 115, 95, 114, 101, 115, 116], [114, 101, 97, 100, 95, 112, 108, 97, 99, 101, 115], [114, 101, 97, 100, 95, 102, 105, 101, 108, 100, 115], [114, 101, 97, 100, 95, 102, 105, 101, 108, 100], [116, 111, 108, 100], [95, 108, 97, 119, 95, 112, 111, 111, 108], [115, 99, 114, 105, 112, 116], [107], [99, 101, 108, 108], [98, 105, 103], [109, 105, 120, 101, 100], [95, 108, 97, 119, 95, 116, 97, 107, 101], [115, 111, 117, 114, 99, 101], [116, 111, 112], [100, 114, 97, 119, 110], [95, 108, 97, 119, 95, 111, 110, 101], [116, 104, 105, 110, 103, 115], [95, 108, 97, 119, 95, 119, 111, 114, 100], [102, 105, 103, 117, 114, 101, 115], [95, 108, 97, 119, 95, 119, 111, 114, 100, 115], [112, 97, 114, 116], [95, 108, 97, 119, 95, 104, 101, 97, 114, 100], [114, 101, 97, 100, 101, 114], [95, 108, 97, 119, 95, 105, 115], [100, 117, 101], [95, 108, 97, 119, 95, 119, 114, 105, 116, 116, 101, 110], [115, 112, 111, 116, 115], [95, 108, 97, 119, 95, 112, 97, 114, 116], [119, 97, 121], [110, 117, 109, 98, 101, 114], [95, 108, 97, 119, 95, 112, 97, 116, 116, 101, 114, 110], [105, 115, 95, 97, 104, 101, 97, 100], [109, 97, 110, 121], [116, 114, 101, 101, 115], [116, 117, 114, 110], [109, 111, 114, 101], [116, 114, 101, 101], [95, 108, 97, 119, 95, 114, 111, 119], [105, 115, 95, 108, 97, 115, 116], [108, 97, 99, 107], [95, 108, 97, 119, 95, 115, 112, 111, 116, 116, 101, 100], [95, 108, 97, 119, 95, 110, 97, 109, 101, 115, 95, 114, 105, 103, 104, 116], [95, 108, 97, 119, 95, 114, 101, 102, 115, 95, 114, 105, 103, 104, 116], [105, 115, 95, 115, 104, 117, 116], [95, 108, 97, 119, 95, 112, 97, 114, 101, 110, 115, 95, 114, 105, 103, 104, 116], [105, 115, 95, 99, 97, 108, 108], [95, 108, 97, 119, 95, 119, 104, 111, 108, 101, 115, 95, 114, 105, 103, 104, 116], [95, 108, 97, 119, 95, 118, 97, 114, 105, 97, 110, 116, 115, 95, 114, 105, 103, 104, 116], [95, 108, 97, 119, 95, 116, 111, 108, 100, 95, 114, 105, 103, 104, 116], [108, 97, 119]]
noncomputable def f1015 : Fn where
  params := [19, 20]
  dflts := []
  ks := [(19, .local), (20, .local), (5, .globalImplicit)]
  body := [
    .asgA (.nm 19) 20 (.call 5 [.nm 20]),
    .asgA (.nm 19) 21 (.int 0),
    .asgA (.nm 19) 22 (.int 0)]
noncomputable def f1023 : Fn where
  params := [19]
  dflts := []
  ks := [(19, .local), (24, .globalImplicit), (10, .globalImplicit)]
  body := [
    .augA (.nm 19) 22 .Add (.int 1),
    .ifS (.cmp .Gt (.attr (.nm 19) 22) (.nm 24)) [.raise (.str (Str.ofString "too many parts within one another")) (.idx (.meth (.nm 19) 25 []) (.int 2))] []]
noncomputable def f1026 : Fn where
  params := [19]
  dflts := []
  ks := [(19, .local)]
  body := [
    .augA (.nm 19) 22 .Sub (.int 1)]
noncomputable def f1025 : Fn where
  params := [19, 27]
  dflts := [.int 0]
  ks := [(19, .local), (27, .local), (1, .globalImplicit), (0, .globalImplicit)]
  body := [
    .ret (.idx (.attr (.nm 19) 20) (.call 1 [.bin .Add (.attr (.nm 19) 21) (.nm 27), .bin .Sub (.call 0 [.attr (.nm 19) 20]) (.int 1)]))]
noncomputable def f1028 : Fn where
  params := [19]
  dflts := []
  ks := [(19, .local), (29, .local)]
  body := [
    .asg 29 (.meth (.nm 19) 25 []),
    .ifS (.cmp .NotEq (.idx (.nm 29) (.int 0)) (.str (Str.ofString "end"))) [.augA (.nm 19) 21 .Add (.int 1)] [],
    .ret (.nm 29)]
noncomputable def f1030 : Fn where
  params := [19, 31, 27]
  dflts := [.int 0]
  ks := [(19, .local), (31, .local), (27, .local), (29, .local)]
  body := [
    .asg 29 (.meth (.nm 19) 25 [.nm 27]),
    .ret (.bop true [.cmp .In (.idx (.nm 29) (.int 0)) (.tup [.str (Str.ofString "sign"), .str (Str.ofString "name")]), .cmp .Eq (.idx (.nm 29) (.int 1)) (.nm 31)])]
noncomputable def f1032 : Fn where
  params := [19, 31]
  dflts := []
  ks := [(19, .local), (31, .local), (10, .globalImplicit)]
  body := [
    .ifS (.not (.meth (.nm 19) 30 [.nm 31])) [.raise (.bin .Add (.nm 31) (.str (Str.ofString " is missing"))) (.idx (.meth (.nm 19) 25 []) (.int 2))] [],
    .ret (.meth (.nm 19) 28 [])]
noncomputable def f1033 : Fn where
  params := [19]
  dflts := []
  ks := [(19, .local), (29, .local), (34, .globalImplicit), (10, .globalImplicit)]
  body := [
    .asg 29 (.meth (.nm 19) 25 []),
    .ifS (.bop false [.cmp .NotEq (.idx (.nm 29) (.int 0)) (.str (Str.ofString "name")), .cmp .In (.idx (.nm 29) (.int 1)) (.nm 34)]) [.raise (.str (Str.ofString "a name is missing")) (.idx (.nm 29) (.int 2))] [],
    .augA (.nm 19) 21 .Add (.int 1),
    .ret (.tup [.idx (.nm 29) (.int 1), .idx (.nm 29) (.int 2)])]
noncomputable def f35 : Fn where
  params := [36, 37]
  dflts := [.bool false]
  ks := [(36, .local), (37, .local), (38, .local), (39, .globalImplicit), (4, .globalImplicit)]
  body := [
    .asg 38 (.list true [.call 39 [.nm 36, .tup [], .nm 37]]),
    .whl (.meth (.nm 36) 30 [.str (Str.ofString "::")]) [.expr (.meth (.nm 36) 28 []), .expr (.meth (.nm 38) 11 [.call 39 [.nm 36, .call 4 [.comp (.idx (.nm 40) (.int 0)) (.one 40) (.nm 38) [] [(41, .local), (40, .local)]], .nm 37]])],
    .ret (.call 4 [.nm 38])]
noncomputable def f39 : Fn where
  params := [36, 27, 37]
  dflts := []
  ks := [(36, .local), (27, .local), (37, .local), (33, .local), (42, .globalImplicit), (43, .globalImplicit)]
  body := [
    .asg 33 (.call 42 [.nm 36, .nm 27]),
    .ifS (.bop true [.meth (.nm 36) 30 [.str (Str.ofString "::")], .meth (.nm 36) 30 [.str (Str.ofString "<"), .int 1]]) [.expr (.meth (.nm 36) 28 []), .ret (.bin .Add (.tup [.nm 33]) (.call 43 [.nm 36]))] [],
    .ifS (.bop true [.not (.nm 37), .meth (.nm 36) 30 [.str (Str.ofString "<")]]) [.ret (.bin .Add (.tup [.nm 33]) (.call 43 [.nm 36]))] [],
    .ret (.tup [.nm 33, .tup [], .tup []])]
noncomputable def f42 : Fn where
  params := [36, 27]
  dflts := []
  ks := [(36, .local), (27, .local), (29, .local), (44, .globalImplicit), (10, .globalImplicit)]
  body := [
    .asg 29 (.meth (.nm 36) 25 []),
    .ifS (.bop true [.cmp .Eq (.idx (.nm 29) (.int 0)) (.str (Str.ofString "name")), .cmp .In (.idx (.nm 29) (.int 1)) (.nm 44)]) [.ifS (.bop false [.cmp .Eq (.nm 27) (.tup []), .bop true [.cmp .Eq (.idx (.nm 29) (.int 1)) (.str (Str.ofString "super")), .cmp .In (.idx (.nm 27) (.neg (.int 1))) (.tup [.str (Str.ofString "super"), .str (Str.ofString "self")])]]) [.expr (.meth (.nm 36) 28 []), .ret (.idx (.nm 29) (.int 1))] [], .raise (.bin .Add (.idx (.nm 29) (.int 1)) (.str (Str.ofString " stands at the begin of a path alone"))) (.idx (.nm 29) (.int 2))] [],
    .ret (.idx (.meth (.nm 36) 33 []) (.int 0))]
noncomputable def f45 : Fn where
  params := [29]
  dflts := []
  ks := [(29, .local), (34, .globalImplicit)]
  body := [
    .ret (.bop true [.cmp .Eq (.idx (.nm 29) (.int 0)) (.str (Str.ofString "name")), .cmp .NotIn (.idx (.nm 29) (.int 1)) (.nm 34)])]
noncomputable def f46 : Fn where
  params := [36]
  dflts := []
  ks := [(36, .local), (17, .local), (38, .local), (47, .globalImplicit), (0, .globalImplicit), (4, .globalImplicit)]
  body := [
    .asg 17 (.idx (.meth (.nm 36) 25 []) (.int 2)),
    .ifS (.meth (.nm 36) 30 [.str (Str.ofString "|")]) [.expr (.meth (.nm 36) 28 [])] [],
    .asg 38 (.list true [.call 47 [.nm 36]]),
    .whl (.meth (.nm 36) 30 [.str (Str.ofString "|")]) [.expr (.meth (.nm 36) 28 []), .expr (.meth (.nm 38) 11 [.call 47 [.nm 36]])],
    .ret (.ite (.cmp .Eq (.call 0 [.nm 38]) (.int 1)) (.idx (.nm 38) (.int 0)) (.tup [.str (Str.ofString "or"), .nm 17, .call 4 [.nm 38]]))]
noncomputable def f47 : Fn where
  params := [36]
  dflts := []
  ks := [(36, .local), (38, .local), (48, .globalImplicit)]
  body := [
    .expr (.meth (.nm 36) 23 []),
    .asg 38 (.call 48 [.nm 36]),
    .expr (.meth (.nm 36) 26 []),
    .ret (.nm 38)]
noncomputable def f48 : Fn where
  params := [36]
  dflts := []
  ks := [(36, .local), (29, .local), (17, .local), (49, .globalImplicit), (50, .globalImplicit), (51, .globalImplicit), (52, .globalImplicit), (45, .globalImplicit), (53, .globalImplicit), (44, .globalImplicit), (54, .globalImplicit), (10, .globalImplicit)]
  body := [
    .asg 29 (.meth (.nm 36) 25 []),
    .asg 17 (.idx (.nm 29) (.int 2)),
    .ifS (.meth (.nm 36) 30 [.str (Str.ofString "_")]) [.expr (.meth (.nm 36) 28 []), .ret (.tup [.str (Str.ofString "wild"), .nm 17])] [],
    .ifS (.bop false [.meth (.nm 36) 30 [.str (Str.ofString "&")], .meth (.nm 36) 30 [.str (Str.ofString "&&")]]) [.ret (.call 49 [.nm 36])] [],
    .ifS (.meth (.nm 36) 30 [.str (Str.ofString "(")]) [.ret (.call 50 [.nm 36])] [],
    .ifS (.bop false [.cmp .Eq (.idx (.nm 29) (.int 0)) (.str (Str.ofString "int")), .meth (.nm 36) 30 [.str (Str.ofString "-")]]) [.ret (.call 51 [.nm 36])] [],
    .ifS (.bop false [.meth (.nm 36) 30 [.str (Str.ofString "true")], .meth (.nm 36) 30 [.str (Str.ofString "false")]]) [.expr (.meth (.nm 36) 28 []), .ret (.tup [.str (Str.ofString "lit"), .nm 17, .cmp .Eq (.idx (.nm 29) (.int 1)) (.str (Str.ofString "true"))])] [],
    .ifS (.bop false [.meth (.nm 36) 30 [.str (Str.ofString "ref")], .meth (.nm 36) 30 [.str (Str.ofString "mut")]]) [.ret (.call 52 [.nm 36])] [],
    .ifS (.bop true [.call 45 [.nm 29], .call 53 [.nm 36]]) [.ret (.call 52 [.nm 36])] [],
    .ifS (.bop false [.call 45 [.nm 29], .bop true [.cmp .Eq (.idx (.nm 29) (.int 0)) (.str (Str.ofString "name")), .cmp .In (.idx (.nm 29) (.int 1)) (.nm 44)]]) [.ret (.call 54 [.nm 36])] [],
    .raise (.str (Str.ofString "a pattern is missing")) (.nm 17)]
noncomputable def f53 : Fn where
  params := [36]
  dflts := []
  ks := [(36, .local), (55, .local)]
  body := [
    .for_ 55 (.tup [.str (Str.ofString "::"), .str (Str.ofString "("), .str (Str.ofString "{")]) [.ifS (.meth (.nm 36) 30 [.nm 55, .int 1]) [.ret (.bool false)] []],
    .ret (.bool true)]
noncomputable def f49 : Fn where
  params := [36]
  dflts := []
  ks := [(36, .local), (29, .local), (17, .local), (56, .local), (57, .local), (58, .local), (59, .local), (38, .local), (0, .globalImplicit), (47, .globalImplicit), (10, .globalImplicit)]
  body := [
    .asg 29 (.meth (.nm 36) 28 []),
    .asg 17 (.bin .Sub (.bin .Add (.idx (.nm 29) (.int 2)) (.call 0 [.idx (.nm 29) (.int 1)])) (.int 1)),
    .asg 56 (.meth (.nm 36) 30 [.str (Str.ofString "mut")]),
    .ifS (.nm 56) [.expr (.meth (.nm 36) 28 [])] [],
    .asgTT [57, 58] true [.meth (.nm 36) 30 [.str (Str.ofString "(")], .idx (.meth (.nm 36) 25 []) (.int 2)],
    .asg 59 (.call 47 [.nm 36]),
    .ifS (.bop true [.cmp .Eq (.idx (.nm 59) (.int 0)) (.str (Str.ofString "range")), .not (.nm 57)]) [.raise (.str (Str.ofString "a range of a reference stands in parentheses")) (.nm 58)] [],
    .asg 38 (.tup [.str (Str.ofString "ref"), .nm 17, .nm 56, .nm 59]),
    .ret (.ite (.cmp .Eq (.idx (.nm 29) (.int 1)) (.str (Str.ofString "&"))) (.nm 38) (.tup [.str (Str.ofString "ref"), .idx (.nm 29) (.int 2), .bool false, .nm 38]))]
noncomputable def f50 : Fn where
  params := [36]
  dflts := []
  ks := [(36, .local), (17, .local), (38, .local), (60, .local), (46, .globalImplicit), (0, .globalImplicit), (4, .globalImplicit)]
  body := [
    .asg 17 (.idx (.meth (.nm 36) 32 [.str (Str.ofString "(")]) (.int 2)),
    .asgTT [38, 60] true [.list true [], .bool true],
    .whl (.not (.meth (.nm 36) 30 [.str (Str.ofString ")")])) [.expr (.meth (.nm 38) 11 [.call 46 [.nm 36]]), .asg 60 (.meth (.nm 36) 30 [.str (Str.ofString ",")]), .ifS (.not (.nm 60)) [.brk] [], .expr (.meth (.nm 36) 28 [])],
    .expr (.meth (.nm 36) 32 [.str (Str.ofString ")")]),
    .ifS (.bop true [.cmp .Eq (.call 0 [.nm 38]) (.int 1), .not (.nm 60)]) [.ret (.idx (.nm 38) (.int 0))] [],
    .ret (.tup [.str (Str.ofString "tuple"), .nm 17, .call 4 [.nm 38]])]
noncomputable def f61 : Fn where
  params := [36]
  dflts := []
  ks := [(36, .local), (62, .local), (29, .local), (10, .globalImplicit)]
  body := [
    .asg 62 (.meth (.nm 36) 30 [.str (Str.ofString "-")]),
    .ifS (.nm 62) [.expr (.meth (.nm 36) 28 [])] [],
    .asg 29 (.meth (.nm 36) 28 []),
    .ifS (.cmp .NotEq (.idx (.nm 29) (.int 0)) (.str (Str.ofString "int"))) [.raise (.str (Str.ofString "a number is missing")) (.idx (.nm 29) (.int 2))] [],
    .ifS (.cmp .IsNot (.idx (.nm 29) (.int 4)) (.none)) [.raise (.str (Str.ofString "a number of a pattern tells no kind")) (.idx (.nm 29) (.int 2))] [],
    .ret (.ite (.nm 62) (.bin .Sub (.int 0) (.idx (.nm 29) (.int 3))) (.idx (.nm 29) (.int 3)))]
noncomputable def f51 : Fn where
  params := [36]
  dflts := []
  ks := [(36, .local), (17, .local), (63, .local), (61, .globalImplicit)]
  body := [
    .asg 17 (.idx (.meth (.nm 36) 25 []) (.int 2)),
    .asg 63 (.call 61 [.nm 36]),
    .ifS (.not (.meth (.nm 36) 30 [.str (Str.ofString "..=")])) [.ret (.tup [.str (Str.ofString "lit"), .nm 17, .nm 63])] [],
    .expr (.meth (.nm 36) 28 []),
    .ret (.tup [.str (Str.ofString "range"), .nm 17, .nm 63, .call 61 [.nm 36]])]
noncomputable def f52 : Fn where
  params := [36]
  dflts := []
  ks := [(36, .local), (17, .local), (64, .local), (56, .local), (33, .local), (59, .local), (47, .globalImplicit)]
  body := [
    .asg 17 (.idx (.meth (.nm 36) 25 []) (.int 2)),
    .asg 64 (.meth (.nm 36) 30 [.str (Str.ofString "ref")]),
    .ifS (.nm 64) [.expr (.meth (.nm 36) 28 [])] [],
    .asg 56 (.meth (.nm 36) 30 [.str (Str.ofString "mut")]),
    .ifS (.nm 56) [.expr (.meth (.nm 36) 28 [])] [],
    .asg 33 (.idx (.meth (.nm 36) 33 []) (.int 0)),
    .asg 59 (.none),
    .ifS (.meth (.nm 36) 30 [.str (Str.ofString "@")]) [.expr (.meth (.nm 36) 28 []), .asg 59 (.call 47 [.nm 36])] [],
    .ret (.tup [.str (Str.ofString "name"), .nm 17, .nm 33, .nm 64, .nm 56, .nm 59])]
noncomputable def f54 : Fn where
  params := [36]
  dflts := []
  ks := [(36, .local), (17, .local), (65, .local), (66, .local), (67, .local), (35, .globalImplicit), (68, .globalImplicit), (69, .globalImplicit)]
  body := [
    .asg 17 (.idx (.meth (.nm 36) 25 []) (.int 2)),
    .asg 65 (.call 35 [.nm 36, .bool true]),
    .ifS (.meth (.nm 36) 30 [.str (Str.ofString "(")]) [.ret (.tup [.str (Str.ofString "variant"), .nm 17, .nm 65, .call 68 [.nm 36]])] [],
    .ifS (.meth (.nm 36) 30 [.str (Str.ofString "{")]) [.asgT [66, 67] false (.call 69 [.nm 36]), .ret (.tup [.str (Str.ofString "fields"), .nm 17, .nm 65, .nm 66, .nm 67])] [],
    .ret (.tup [.str (Str.ofString "variant"), .nm 17, .nm 65, .tup []])]
noncomputable def f68 : Fn where
  params := [36]
  dflts := []
  ks := [(36, .local), (38, .local), (46, .globalImplicit), (4, .globalImplicit)]
  body := [
    .expr (.meth (.nm 36) 32 [.str (Str.ofString "(")]),
    .asg 38 (.list true []),
    .whl (.not (.meth (.nm 36) 30 [.str (Str.ofString ")")])) [.expr (.meth (.nm 38) 11 [.call 46 [.nm 36]]), .ifS (.not (.meth (.nm 36) 30 [.str (Str.ofString ",")])) [.brk] [], .expr (.meth (.nm 36) 28 [])],
    .expr (.meth (.nm 36) 32 [.str (Str.ofString ")")]),
    .ret (.call 4 [.nm 38])]
noncomputable def f69 : Fn where
  params := [36]
  dflts := []
  ks := [(36, .local), (38, .local), (67, .local), (70, .globalImplicit), (4, .globalImplicit)]
  body := [
    .expr (.meth (.nm 36) 32 [.str (Str.ofString "{")]),
    .asgTT [38, 67] true [.list true [], .bool false],
    .whl (.not (.meth (.nm 36) 30 [.str (Str.ofString "}")])) [.ifS (.meth (.nm 36) 30 [.str (Str.ofString "..")]) [.expr (.meth (.nm 36) 28 []), .asg 67 (.bool true), .brk] [], .expr (.meth (.nm 38) 11 [.call 70 [.nm 36]]), .ifS (.not (.meth (.nm 36) 30 [.str (Str.ofString ",")])) [.brk] [], .expr (.meth (.nm 36) 28 [])],
    .expr (.meth (.nm 36) 32 [.str (Str.ofString "}")]),
    .ret (.tup [.call 4 [.nm 38], .nm 67])]
noncomputable def f70 : Fn where
  params := [36]
  dflts := []
  ks := [(36, .local), (29, .local), (71, .local), (7, .globalImplicit), (46, .globalImplicit), (45, .globalImplicit), (52, .globalImplicit), (10, .globalImplicit)]
  body := [
    .asg 29 (.meth (.nm 36) 25 []),
    .ifS (.bop true [.cmp .Eq (.idx (.nm 29) (.int 0)) (.str (Str.ofString "int")), .cmp .Eq (.idx (.nm 29) (.int 1)) (.call 7 [.idx (.nm 29) (.int 3)])]) [.expr (.meth (.nm 36) 28 []), .expr (.meth (.nm 36) 32 [.str (Str.ofString ":")]), .ret (.tup [.idx (.nm 29) (.int 1), .call 46 [.nm 36]])] [],
    .ifS (.bop true [.call 45 [.nm 29], .meth (.nm 36) 30 [.str (Str.ofString ":"), .int 1]]) [.expr (.meth (.nm 36) 28 []), .expr (.meth (.nm 36) 28 []), .ret (.tup [.idx (.nm 29) (.int 1), .call 46 [.nm 36]])] [],
    .asg 71 (.call 52 [.nm 36]),
    .ifS (.cmp .IsNot (.idx (.nm 71) (.int 5)) (.none)) [.raise (.str (Str.ofString "a field's name alone is no pattern with @")) (.idx (.nm 71) (.int 1))] [],
    .ret (.tup [.idx (.nm 71) (.int 2), .nm 71])]
noncomputable def f72 : Fn where
  params := [73, 74]
  dflts := []
  ks := [(73, .local), (74, .local), (75, .local), (76, .local), (77, .local), (0, .globalImplicit), (2, .globalImplicit), (3, .globalImplicit)]
  body := [
    .asg 75 (.int 0),
    .ifS (.cmp .Lt (.nm 74) (.call 0 [.nm 73])) [.asg 75 (.idx (.nm 73) (.nm 74))] [],
    .asg 76 (.call 2 [.call 3 [.nm 75], .call 3 [.bin .Sub (.neg (.int 1)) (.nm 75)]]),
    .asg 77 (.bin .Mod (.call 3 [.bin .Mult (.bin .Add (.bin .Add (.bin .Add (.bin .Mod (.call 3 [.nm 76]) (.int 2147483629)) (.bin .Mult (.bin .Mult (.int 7919) (.nm 74)) (.nm 74))) (.bin .Mult (.int 31) (.nm 74))) (.int 17)) (.int 48271)]) (.int 2147483647)),
    .ret (.list true [.bin .Mult (.nm 76) (.call 3 [.cmp .GtE (.nm 76) (.bin .Pow (.int 10) (.int 18))]), .nm 77])]
noncomputable def f78 : Fn where
  params := [79, 80]
  dflts := []
  ks := [(79, .local), (80, .local), (81, .local), (3, .globalImplicit)]
  body := [
    .ifS (.cmp .Gt (.idx (.nm 79) (.int 0)) (.int 0)) [.asg 81 (.bin .Mod (.call 3 [.idx (.nm 79) (.int 0)]) (.nm 80)), .asgS (.nm 79) (.int 0) (.bin .FloorDiv (.idx (.nm 79) (.int 0)) (.nm 80)), .ret (.nm 81)] [],
    .asgS (.nm 79) (.int 1) (.bin .Mod (.call 3 [.bin .Add (.bin .Mult (.idx (.nm 79) (.int 1)) (.int 39373)) (.int 7)]) (.int 2147483647)),
    .ret (.bin .Mod (.call 3 [.bin .FloorDiv (.bin .Mod (.call 3 [.bin .Mult (.idx (.nm 79) (.int 1)) (.idx (.nm 79) (.int 1))]) (.int 2147483629)) (.int 32)]) (.nm 80))]
noncomputable def f82 : Fn where
  params := [79, 83]
  dflts := []
  ks := [(79, .local), (83, .local), (78, .globalImplicit), (0, .globalImplicit)]
  body := [
    .ret (.idx (.nm 83) (.call 78 [.nm 79, .call 0 [.nm 83]]))]
noncomputable def f84 : Fn where
  params := [31, 21]
  dflts := []
  ks := [(31, .local), (21, .local), (85, .local), (3, .globalImplicit)]
  body := [
    .ifS (.cmp .In (.idx (.nm 31) (.int 0)) (.str (Str.ofString "0123456789"))) [.asg 85 (.meth (.str (Str.ofString "")) 12 [.comp (.nm 55) (.one 55) (.nm 31) [.cmp .In (.nm 55) (.str (Str.ofString "0123456789"))] [(41, .local), (55, .local)]]), .ret (.ite (.cmp .Eq (.nm 85) (.nm 31)) (.tup [.str (Str.ofString "int"), .nm 31, .nm 21, .call 3 [.nm 85], .none]) (.tup [.str (Str.ofString "int"), .nm 31, .nm 21, .int 7, .str (Str.ofString "u8")]))] [],
    .ret (.tup [.ite (.bop false [.meth (.idx (.nm 31) (.int 0)) 13 [], .cmp .Eq (.idx (.nm 31) (.int 0)) (.str (Str.ofString "_"))]) (.str (Str.ofString "name")) (.str (Str.ofString "sign")), .nm 31, .nm 21, .none, .none])]
noncomputable def f86 : Fn where
  params := [31]
  dflts := []
  ks := [(31, .local), (20, .local), (21, .local), (87, .local), (84, .globalImplicit), (0, .globalImplicit), (9, .globalImplicit)]
  body := [
    .asgTT [20, 21] true [.list true [], .int 0],
    .for_ 87 (.meth (.nm 31) 14 [.str (Str.ofString " ")]) [.ifS (.cmp .NotEq (.nm 87) (.str (Str.ofString ""))) [.expr (.meth (.nm 20) 11 [.call 84 [.nm 87, .nm 21]])] [], .asg 21 (.bin .Add (.bin .Add (.nm 21) (.call 0 [.nm 87])) (.int 1))],
    .ret (.call 9 [.bin .Add (.nm 20) (.list false [.tup [.str (Str.ofString "end"), .str (Str.ofString ""), .call 0 [.nm 31], .none, .none]])])]
noncomputable def f88 : Fn where
  params := [89, 31]
  dflts := []
  ks := [(89, .local), (31, .local), (36, .local), (18, .local), (86, .globalImplicit), (10, .globalImplicit)]
  body := [
    .asg 36 (.call 86 [.nm 31]),
    .try_ (.tup [.call 89 [.nm 36], .attr (.nm 36) 21])]
noncomputable def f90 : Fn where
  params := [89, 31, 91]
  dflts := []
  ks := [(89, .local), (31, .local), (91, .local), (6, .globalImplicit), (88, .globalImplicit)]
  body := [
    .ret (.cmp .Eq (.call 6 [.call 88 [.nm 89, .nm 31]]) (.call 6 [.nm 91]))]
noncomputable def f92 : Fn where
  params := [79, 36]
  dflts := []
  ks := [(79, .local), (36, .local), (31, .local), (93, .local), (29, .local), (78, .globalImplicit), (0, .globalImplicit)]
  body := [
    .asgTT [31, 93] true [.bin .Mult (.str (Str.ofString " ")) (.call 78 [.nm 79, .int 2]), .list true []],
    .for_ 29 (.nm 36) [.expr (.meth (.nm 93) 11 [.call 0 [.nm 31]]), .asg 31 (.bin .Add (.bin .Add (.nm 31) (.nm 29)) (.bin .Mult (.str (Str.ofString " ")) (.bin .Add (.int 1) (.call 78 [.nm 79, .int 2]))))],
    .ret (.tup [.nm 31, .bin .Add (.nm 93) (.list false [.call 0 [.nm 31]])])]
noncomputable def f94 : Fn where
  params := [79, 21]
  dflts := []
  ks := [(79, .local), (21, .local), (95, .local), (96, .local), (33, .local), (78, .globalImplicit), (7, .globalImplicit), (82, .globalImplicit)]
  body := [
    .asgTT [95, 96] true [.call 78 [.nm 79, .int 6], .call 78 [.nm 79, .int 300]],
    .ifS (.cmp .Eq (.nm 95) (.int 0)) [.ret (.tup [.list false [.str (Str.ofString "_")], .tup [.str (Str.ofString "wild"), .nm 21]])] [],
    .ifS (.cmp .Eq (.nm 95) (.int 1)) [.ret (.tup [.list false [.call 7 [.nm 96]], .tup [.str (Str.ofString "lit"), .nm 21, .nm 96]])] [],
    .ifS (.cmp .Eq (.nm 95) (.int 2)) [.ret (.tup [.list false [.str (Str.ofString "-"), .call 7 [.nm 96]], .tup [.str (Str.ofString "lit"), .nm 21, .bin .Sub (.int 0) (.nm 96)]])] [],
    .ifS (.cmp .Eq (.nm 95) (.int 3)) [.ret (.tup [.list false [.idx (.list false [.str (Str.ofString "true"), .str (Str.ofString "false")]) (.bin .Mod (.nm 96) (.int 2))], .tup [.str (Str.ofString "lit"), .nm 21, .cmp .Eq (.bin .Mod (.nm 96) (.int 2)) (.int 0)]])] [],
    .ifS (.cmp .Eq (.nm 95) (.int 4)) [.ret (.tup [.list false [.call 7 [.nm 96], .str (Str.ofString "..="), .str (Str.ofString "900")], .tup [.str (Str.ofString "range"), .nm 21, .nm 96, .int 900]])] [],
    .asg 33 (.call 82 [.nm 79, .list false [.str (Str.ofString "a"), .str (Str.ofString "b_")]]),
    .ret (.tup [.list false [.nm 33], .tup [.str (Str.ofString "name"), .nm 21, .nm 33, .bool false, .bool false, .none]])]
noncomputable def f97 : Fn where
  params := [79, 21]
  dflts := []
  ks := [(79, .local), (21, .local), (98, .local), (99, .local), (36, .local), (100, .local), (101, .local), (102, .local), (103, .local), (78, .globalImplicit), (82, .globalImplicit), (3, .globalImplicit), (8, .globalImplicit), (94, .globalImplicit), (0, .globalImplicit), (4, .globalImplicit)]
  body := [
    .asgTT [98, 99] true [.cmp .Eq (.call 78 [.nm 79, .int 5]) (.int 0), .call 82 [.nm 79, .list false [.int 1, .int 1, .int 2]]],
    .asgTT [36, 100] true [.bin .Mult (.list false [.str (Str.ofString "|")]) (.call 3 [.nm 98]), .list false []],
    .for_ 101 (.call 8 [.nm 99]) [.ifS (.cmp .Gt (.nm 101) (.int 0)) [.asg 36 (.bin .Add (.nm 36) (.list false [.str (Str.ofString "|")]))] [], .asgT [102, 103] false (.call 94 [.nm 79, .bin .Add (.nm 21) (.call 0 [.nm 36])]), .asgTT [36, 100] true [.bin .Add (.nm 36) (.nm 102), .bin .Add (.nm 100) (.list false [.nm 103])]],
    .ret (.tup [.nm 36, .ite (.cmp .Eq (.nm 99) (.int 1)) (.idx (.nm 100) (.int 0)) (.tup [.str (Str.ofString "or"), .nm 21, .call 4 [.nm 100]])])]
noncomputable def f104 : Fn where
  params := [79, 21]
  dflts := []
  ks := [(79, .local), (21, .local), (36, .local), (100, .local), (105, .local), (106, .local), (99, .local), (101, .local), (102, .local), (103, .local), (82, .globalImplicit), (8, .globalImplicit), (97, .globalImplicit), (0, .globalImplicit), (78, .globalImplicit)]
  body := [
    .asgTT [36, 100, 105, 106] false [.list false [.str (Str.ofString "(")], .list false [], .bool false, .none],
    .asg 99 (.call 82 [.nm 79, .list false [.int 0, .int 1, .int 1, .int 2, .int 3]]),
    .for_ 101 (.call 8 [.nm 99]) [.asgT [102, 103] false (.call 97 [.nm 79, .bin .Add (.nm 21) (.call 0 [.nm 36])]), .asgTT [36, 100, 105] true [.bin .Add (.nm 36) (.nm 102), .bin .Add (.nm 100) (.list false [.nm 103]), .bool false], .ifS (.bop true [.cmp .Lt (.bin .Add (.nm 101) (.int 1)) (.nm 99), .cmp .Is (.nm 106) (.none), .cmp .Eq (.call 78 [.nm 79, .int 6]) (.int 0)]) [.asg 36 (.bin .Add (.nm 36) (.list false [.str (Str.ofString "c"), .str (Str.ofString ",")])), .asg 106 (.bin .Sub (.bin .Add (.nm 21) (.call 0 [.nm 36])) (.int 2))] [.ifS (.bop false [.cmp .Lt (.bin .Add (.nm 101) (.int 1)) (.nm 99), .cmp .Eq (.call 78 [.nm 79, .int 2]) (.int 0)]) [.asgTT [36, 105] true [.bin .Add (.nm 36) (.list false [.str (Str.ofString ",")]), .bool true]] []]],
    .ret (.tup [.bin .Add (.nm 36) (.list false [.str (Str.ofString ")")]), .nm 100, .nm 105, .nm 106])]
noncomputable def f107 : Fn where
  params := [103, 93]
  dflts := []
  ks := [(103, .local), (93, .cell), (4, .globalImplicit)]
  body := [
    .ifS (.cmp .Eq (.idx (.nm 103) (.int 0)) (.str (Str.ofString "or"))) [.ret (.tup [.str (Str.ofString "or"), .idx (.nm 93) (.idx (.nm 103) (.int 1)), .call 4 [.comp (.call 107 [.nm 87, .nm 93]) (.one 87) (.idx (.nm 103) (.int 2)) [] [(41, .local), (87, .local), (107, .globalImplicit), (93, .free)]]])] [],
    .ret (.bin .Add (.tup [.idx (.nm 103) (.int 0), .idx (.nm 93) (.idx (.nm 103) (.int 1))]) (.sl (.nm 103) (.int 2)))]
noncomputable def f108 : Fn where
  params := [79]
  dflts := []
  ks := [(79, .local), (55, .local), (36, .local), (82, .globalImplicit), (86, .globalImplicit), (92, .globalImplicit), (53, .globalImplicit)]
  body := [
    .asg 55 (.call 82 [.nm 79, .list false [.str (Str.ofString "::"), .str (Str.ofString "("), .str (Str.ofString "{"), .str (Str.ofString ","), .str (Str.ofString ")"), .str (Str.ofString "@"), .str (Str.ofString "|"), .str (Str.ofString ":"), .str (Str.ofString "")]]),
    .asg 36 (.call 86 [.idx (.call 92 [.nm 79, .list false [.str (Str.ofString "a"), .nm 55]]) (.int 0)]),
    .ret (.bop true [.cmp .Eq (.call 53 [.nm 36]) (.cmp .NotIn (.nm 55) (.list false [.str (Str.ofString "::"), .str (Str.ofString "("), .str (Str.ofString "{")])), .cmp .Eq (.attr (.nm 36) 21) (.int 0)])]
noncomputable def f109 : Fn where
  params := [79]
  dflts := []
  ks := [(79, .local), (55, .local), (56, .local), (110, .local), (36, .local), (58, .local), (102, .local), (103, .local), (31, .local), (93, .local), (91, .local), (82, .globalImplicit), (78, .globalImplicit), (3, .globalImplicit), (0, .globalImplicit), (94, .globalImplicit), (92, .globalImplicit), (107, .globalImplicit), (90, .globalImplicit), (49, .globalImplicit)]
  body := [
    .asgTT [55, 56, 110] true [.call 82 [.nm 79, .list false [.str (Str.ofString "&"), .str (Str.ofString "&&")]], .cmp .Eq (.call 78 [.nm 79, .int 2]) (.int 0), .cmp .Eq (.call 78 [.nm 79, .int 2]) (.int 0)],
    .asg 36 (.bin .Add (.list false [.nm 55]) (.bin .Mult (.list false [.str (Str.ofString "mut")]) (.call 3 [.nm 56]))),
    .asg 58 (.call 0 [.nm 36]),
    .asgT [102, 103] false (.call 94 [.nm 79, .bin .Add (.nm 58) (.call 3 [.nm 110])]),
    .asg 36 (.bin .Add (.nm 36) (.ite (.nm 110) (.bin .Add (.bin .Add (.list false [.str (Str.ofString "(")]) (.nm 102)) (.list false [.str (Str.ofString ")")])) (.nm 102))),
    .asgT [31, 93] false (.call 92 [.nm 79, .bin .Add (.nm 36) (.list false [.str (Str.ofString ",")])]),
    .asg 91 (.tup [.tup [.str (Str.ofString "ref"), .bin .Sub (.bin .Add (.idx (.nm 93) (.int 0)) (.call 0 [.nm 55])) (.int 1), .nm 56, .call 107 [.nm 103, .nm 93]], .call 0 [.nm 36]]),
    .ifS (.cmp .Eq (.nm 55) (.str (Str.ofString "&&"))) [.asg 91 (.tup [.tup [.str (Str.ofString "ref"), .idx (.nm 93) (.int 0), .bool false, .idx (.nm 91) (.int 0)], .idx (.nm 91) (.int 1)])] [],
    .ifS (.bop true [.cmp .Eq (.idx (.nm 103) (.int 0)) (.str (Str.ofString "range")), .not (.nm 110)]) [.asg 91 (.list false [.str (Str.ofString "a range of a reference stands in parentheses"), .idx (.nm 93) (.nm 58)])] [],
    .ret (.call 90 [.nm 49, .nm 31, .nm 91])]
noncomputable def f111 : Fn where
  params := [79, 112]
  dflts := []
  ks := [(79, .local), (112, .local), (36, .local), (100, .local), (105, .local), (106, .local), (31, .local), (93, .cell), (38, .local), (91, .local), (104, .globalImplicit), (92, .globalImplicit), (4, .globalImplicit), (0, .globalImplicit), (90, .globalImplicit), (68, .globalImplicit), (50, .globalImplicit)]
  body := [
    .asgT [36, 100, 105, 106] false (.call 104 [.nm 79, .int 0]),
    .asgT [31, 93] false (.call 92 [.nm 79, .bin .Add (.nm 36) (.list false [.str (Str.ofString "|")])]),
    .asg 38 (.call 4 [.comp (.call 107 [.nm 103, .nm 93]) (.one 103) (.nm 100) [] [(41, .local), (103, .local), (107, .globalImplicit), (93, .free)]]),
    .asg 91 (.tup [.nm 38, .call 0 [.nm 36]]),
    .ifS (.not (.nm 112)) [.asg 91 (.tup [.ite (.bop true [.cmp .Eq (.call 0 [.nm 38]) (.int 1), .not (.nm 105)]) (.idx (.nm 38) (.int 0)) (.tup [.str (Str.ofString "tuple"), .idx (.nm 93) (.int 0), .nm 38]), .call 0 [.nm 36]])] [],
    .ifS (.cmp .IsNot (.nm 106) (.none)) [.asg 91 (.list false [.str (Str.ofString ") is missing"), .idx (.nm 93) (.nm 106)])] [],
    .ret (.call 90 [.ite (.nm 112) (.nm 68) (.nm 50), .nm 31, .nm 91])]
noncomputable def f113 : Fn where
  params := [79]
  dflts := []
  ks := [(79, .local), (96, .local), (62, .local), (29, .local), (31, .local), (93, .local), (21, .local), (91, .local), (78, .globalImplicit), (82, .globalImplicit), (7, .globalImplicit), (92, .globalImplicit), (3, .globalImplicit), (90, .globalImplicit), (61, .globalImplicit)]
  body := [
    .asgTT [96, 62] true [.call 78 [.nm 79, .int 300], .cmp .Eq (.call 78 [.nm 79, .int 2]) (.int 0)],
    .asg 29 (.call 82 [.nm 79, .list false [.call 7 [.nm 96], .call 7 [.nm 96], .bin .Add (.call 7 [.nm 96]) (.str (Str.ofString "u8")), .str (Str.ofString "x"), .str (Str.ofString "-"), .str (Str.ofString ")")]]),
    .asgT [31, 93] false (.call 92 [.nm 79, .bin .Add (.bin .Mult (.list false [.str (Str.ofString "-")]) (.call 3 [.nm 62])) (.list false [.nm 29])]),
    .asg 21 (.call 3 [.nm 62]),
    .asg 91 (.tup [.ite (.nm 62) (.bin .Sub (.int 0) (.nm 96)) (.nm 96), .bin .Add (.nm 21) (.int 1)]),
    .ifS (.cmp .Eq (.nm 29) (.bin .Add (.call 7 [.nm 96]) (.str (Str.ofString "u8")))) [.asg 91 (.list false [.str (Str.ofString "a number of a pattern tells no kind"), .idx (.nm 93) (.nm 21)])] [.ifS (.bop true [.cmp .Eq (.nm 29) (.str (Str.ofString "-")), .not (.nm 62)]) [.asg 91 (.list false [.str (Str.ofString "a number is missing"), .idx (.nm 93) (.int 1)])] [.ifS (.cmp .In (.nm 29) (.list false [.str (Str.ofString "x"), .str (Str.ofString "-"), .str (Str.ofString ")")])) [.asg 91 (.list false [.str (Str.ofString "a number is missing"), .idx (.nm 93) (.nm 21)])] []]],
    .ret (.call 90 [.nm 61, .nm 31, .nm 91])]
noncomputable def f114 : Fn where
  params := [79]
  dflts := []
  ks := [(79, .local), (36, .local), (65, .local), (95, .local), (31, .local), (93, .cell), (102, .local), (100, .local), (105, .local), (106, .local), (103, .local), (38, .local), (91, .local), (20, .local), (67, .local), (101, .local), (82, .globalImplicit), (4, .globalImplicit), (78, .globalImplicit), (92, .globalImplicit), (90, .globalImplicit), (54, .globalImplicit), (0, .globalImplicit), (104, .globalImplicit), (8, .globalImplicit), (97, .globalImplicit), (3, .globalImplicit)]
  body := [
    .asg 36 (.call 82 [.nm 79, .list false [.list false [.str (Str.ofString "P")], .list false [.str (Str.ofString "P"), .str (Str.ofString "::"), .str (Str.ofString "Q")], .list false [.str (Str.ofString "Self"), .str (Str.ofString "::"), .str (Str.ofString "A")]]]),
    .asgTT [65, 95] true [.call 4 [.comp (.tup [.nm 29, .tup [], .tup []]) (.one 29) (.nm 36) [.cmp .NotEq (.nm 29) (.str (Str.ofString "::"))] [(41, .local), (29, .local)]], .call 78 [.nm 79, .int 3]],
    .ifS (.cmp .Eq (.nm 95) (.int 0)) [.asgT [31, 93] false (.call 92 [.nm 79, .bin .Add (.nm 36) (.list false [.str (Str.ofString ")")])]), .ret (.call 90 [.nm 54, .nm 31, .tup [.tup [.str (Str.ofString "variant"), .idx (.nm 93) (.int 0), .nm 65, .tup []], .call 0 [.nm 36]]])] [],
    .ifS (.cmp .Eq (.nm 95) (.int 1)) [.asgT [102, 100, 105, 106] false (.call 104 [.nm 79, .call 0 [.nm 36]]), .asgT [31, 93] false (.call 92 [.nm 79, .bin .Add (.nm 36) (.nm 102)]), .asg 38 (.call 4 [.comp (.call 107 [.nm 103, .nm 93]) (.one 103) (.nm 100) [] [(41, .local), (103, .local), (107, .globalImplicit), (93, .free)]]), .asg 91 (.tup [.tup [.str (Str.ofString "variant"), .idx (.nm 93) (.int 0), .nm 65, .nm 38], .bin .Add (.call 0 [.nm 36]) (.call 0 [.nm 102])]), .ret (.call 90 [.nm 54, .nm 31, .ite (.cmp .Is (.nm 106) (.none)) (.nm 91) (.list false [.str (Str.ofString ") is missing"), .idx (.nm 93) (.nm 106)])])] [],
    .asgTT [36, 20, 67] true [.bin .Add (.nm 36) (.list false [.str (Str.ofString "{")]), .list true [], .cmp .Eq (.call 78 [.nm 79, .int 2]) (.int 0)],
    .for_ 101 (.call 8 [.call 78 [.nm 79, .int 3]]) [.asg 36 (.bin .Add (.nm 36) (.list false [.idx (.str (Str.ofString "ab")) (.nm 101), .str (Str.ofString ":")])), .asgT [102, 103] false (.call 97 [.nm 79, .call 0 [.nm 36]]), .asgTT [36, 20] true [.bin .Add (.bin .Add (.nm 36) (.nm 102)) (.list false [.str (Str.ofString ",")]), .bin .Add (.nm 20) (.list false [.tup [.idx (.str (Str.ofString "ab")) (.nm 101), .nm 103]])]],
    .asg 36 (.bin .Add (.bin .Add (.nm 36) (.bin .Mult (.list false [.str (Str.ofString "..")]) (.call 3 [.nm 67]))) (.list false [.str (Str.ofString "}")])),
    .asgT [31, 93] false (.call 92 [.nm 79, .nm 36]),
    .asg 91 (.tup [.str (Str.ofString "fields"), .idx (.nm 93) (.int 0), .nm 65, .call 4 [.comp (.tup [.nm 33, .call 107 [.nm 103, .nm 93]]) (.two [33, 103]) (.nm 20) [] [(41, .local), (33, .local), (103, .local), (107, .globalImplicit), (93, .free)]], .nm 67]),
    .ret (.call 90 [.nm 54, .nm 31, .tup [.nm 91, .call 0 [.nm 36]]])]
noncomputable def f115 : Fn where
  params := []
  dflts := []
  ks := [(65, .local), (33, .local), (20, .local), (49, .globalImplicit), (50, .globalImplicit), (68, .globalImplicit), (61, .globalImplicit), (54, .globalImplicit)]
  body := [
    .asgTT [65, 33] false [.tup [.tup [.str (Str.ofString "P"), .tup [], .tup []]], .tup [.str (Str.ofString "name"), .int 6, .str (Str.ofString "a"), .bool false, .bool false, .none]],
    .asg 20 (.list true [.tup [.nm 49, .str (Str.ofString "& mut a"), .tup [.tup [.str (Str.ofString "ref"), .int 0, .bool true, .nm 33], .int 3]]]),
    .expr (.meth (.nm 20) 11 [.tup [.nm 49, .str (Str.ofString "&& 3"), .tup [.tup [.str (Str.ofString "ref"), .int 0, .bool false, .tup [.str (Str.ofString "ref"), .int 1, .bool false, .tup [.str (Str.ofString "lit"), .int 3, .int 3]]], .int 2]]]),
    .expr (.meth (.nm 20) 11 [.tup [.nm 49, .str (Str.ofString "& 1 ..= 2"), .list false [.str (Str.ofString "a range of a reference stands in parentheses"), .int 2]]]),
    .expr (.meth (.nm 20) 11 [.tup [.nm 49, .str (Str.ofString "& ( 1 ..= 2 )"), .tup [.tup [.str (Str.ofString "ref"), .int 0, .bool false, .tup [.str (Str.ofString "range"), .int 4, .int 1, .int 2]], .int 6]]]),
    .expr (.meth (.nm 20) 11 [.tup [.nm 50, .str (Str.ofString "( _ , )"), .tup [.tup [.str (Str.ofString "tuple"), .int 0, .tup [.tup [.str (Str.ofString "wild"), .int 2]]], .int 4]]]),
    .expr (.meth (.nm 20) 11 [.tup [.nm 50, .str (Str.ofString "( _ )"), .tup [.tup [.str (Str.ofString "wild"), .int 2], .int 3]]]),
    .expr (.meth (.nm 20) 11 [.tup [.nm 50, .str (Str.ofString "( )"), .tup [.tup [.str (Str.ofString "tuple"), .int 0, .tup []], .int 2]]]),
    .expr (.meth (.nm 20) 11 [.tup [.nm 68, .str (Str.ofString "( _ _ )"), .list false [.str (Str.ofString ") is missing"), .int 4]]]),
    .expr (.meth (.nm 20) 11 [.tup [.nm 68, .str (Str.ofString "( _ , )"), .tup [.tup [.tup [.str (Str.ofString "wild"), .int 2]], .int 4]]]),
    .expr (.meth (.nm 20) 11 [.tup [.nm 61, .str (Str.ofString "- 7"), .tup [.neg (.int 7), .int 2]]]),
    .expr (.meth (.nm 20) 11 [.tup [.nm 61, .str (Str.ofString "7u8"), .list false [.str (Str.ofString "a number of a pattern tells no kind"), .int 0]]]),
    .expr (.meth (.nm 20) 11 [.tup [.nm 61, .str (Str.ofString "- x"), .list false [.str (Str.ofString "a number is missing"), .int 2]]]),
    .expr (.meth (.nm 20) 11 [.tup [.nm 54, .str (Str.ofString "P { .. }"), .tup [.tup [.str (Str.ofString "fields"), .int 0, .nm 65, .tup [], .bool true], .int 4]]]),
    .expr (.meth (.nm 20) 11 [.tup [.nm 54, .str (Str.ofString "P ,"), .tup [.tup [.str (Str.ofString "variant"), .int 0, .nm 65, .tup []], .int 1]]]),
    .ret (.cmp .Eq (.comp (.nm 40) (.one 40) (.nm 20) [.not (.call 90 [.idx (.nm 40) (.int 0), .idx (.nm 40) (.int 1), .idx (.nm 40) (.int 2)])] [(41, .local), (40, .local), (90, .globalImplicit)]) (.list false []))]
noncomputable def f116 : Fn where
  params := [73]
  dflts := []
  ks := [(73, .local), (79, .local), (115, .globalImplicit), (72, .globalImplicit), (108, .globalImplicit), (109, .globalImplicit), (113, .globalImplicit), (111, .globalImplicit), (114, .globalImplicit)]
  body := [
    .ifS (.not (.call 115 [])) [.ret (.bool false)] [],
    .asg 79 (.call 72 [.nm 73, .int 0]),
    .ifS (.bop false [.not (.call 108 [.nm 79]), .not (.call 109 [.nm 79]), .not (.call 113 [.nm 79])]) [.ret (.bool false)] [],
    .ifS (.bop false [.not (.call 111 [.nm 79, .bool false]), .not (.call 111 [.nm 79, .bool true])]) [.ret (.bool false)] [],
    .ret (.call 114 [.nm 79])]
noncomputable def fnL : List (Nat × Fn) := [(1015, f1015), (1023, f1023), (1026, f1026), (1025, f1025), (1028, f1028), (1030, f1030), (1032, f1032), (1033, f1033), (35, f35), (39, f39), (42, f42), (45, f45), (46, f46), (47, f47), (48, f48), (53, f53), (49, f49), (50, f50), (61, f61), (51, f51), (52, f52), (54, f54), (68, f68), (69, f69), (70, f70), (72, f72), (78, f78), (82, f82), (84, f84), (86, f86), (88, f88), (90, f90), (92, f92), (94, f94), (97, f97), (104, f104), (107, f107), (108, f108), (109, f109), (111, f111), (113, f113), (114, f114), (115, f115), (116, f116)]
end Mine
end
section
namespace Mine
open PySem
noncomputable def idOf (x : Str) : Option Nat := namesL.findIdx? (fun l => l == x.cps.toList)
noncomputable def nm (n : Nat) : Str := match namesL[n]? with
  | some l => ⟨l.toArray⟩
  | none => ⟨#[1114112, n]⟩
theorem idOf_eq {x : Str} {n : Nat} (h : idOf x = some n) : x = nm n := by
  unfold idOf at h
  rw [List.findIdx?_eq_some_iff_getElem] at h
  obtain ⟨hlt, he, _⟩ := h
  have he' := beq_iff_eq.mp he
  unfold nm
  rw [List.getElem?_eq_getElem hlt]
  show x = ⟨(namesL[n]).toArray⟩
  rw [he']
theorem names_nodup : namesL.Nodup := by decide +kernel
theorem names_head : ∀ l ∈ namesL, l.head? ≠ some 1114112 := by decide +kernel
theorem nm_inj : ∀ a b, nm a = nm b → a = b := by
  intro a b h
  unfold nm at h
  cases ha : namesL[a]? with
  | none =>
    rw [ha] at h
    cases hb : namesL[b]? with
    | none => rw [hb] at h; simpa using h
    | some l =>
      rw [hb] at h
      have e : l = [1114112, a] := by simpa using (congrArg (fun x : Str => x.cps.toList) h).symm
      exact absurd (by rw [e]; rfl) (names_head l (List.mem_of_getElem? hb))
  | some l =>
    rw [ha] at h
    cases hb : namesL[b]? with
    | none =>
      rw [hb] at h
      have e : l = [1114112, b] := by simpa using congrArg (fun x : Str => x.cps.toList) h
      exact absurd (by rw [e]; rfl) (names_head l (List.mem_of_getElem? ha))
    | some l' =>
      rw [hb] at h
      have e : l = l' := by simpa using congrArg (fun x : Str => x.cps.toList) h
      subst e
      obtain ⟨ha', ea⟩ := List.getElem?_eq_some_iff.mp ha
      obtain ⟨hb', eb⟩ := List.getElem?_eq_some_iff.mp hb
      exact (List.getElem_inj names_nodup).mp (ea.trans eb.symm)
noncomputable def strsD (l : List String) : List D := l.map fun s => .str (Str.ofString s)
noncomputable def keywordsL : List String := ["_", "Self", "abstract", "as", "async", "await", "become", "box", "break", "const", "continue", "crate", "do", "dyn", "else", "enum", "extern", "false", "final", "fn", "for", "if", "impl", "in", "let", "loop", "macro", "match", "mod", "move", "mut", "override", "priv", "pub", "ref", "return", "self", "static", "struct", "super", "trait", "true", "try", "type", "typeof", "unsafe", "unsized", "use", "virtual", "where", "while", "yield"]
noncomputable def pathWordsL : List String := ["Self", "crate", "self", "super"]
noncomputable def constL : List (Nat × D) :=
  [(0, .gv 0), (1, .gv 1), (2, .gv 2), (3, .gv 3), (4, .gv 4), (5, .gv 5), (6, .gv 6), (7, .gv 7), (8, .gv 8), (9, .gv 9),
   (34, .tup (strsD keywordsL)), (24, .int 60), (44, .tup (strsD pathWordsL))] ++ (fnL.filter (fun x => decide (x.1 < 1000))).map fun x => (x.1, .gv x.1)
noncomputable def methL : List (Nat × Nat) := (fnL.filter (fun x => decide (1000 ≤ x.1))).map fun x => (x.1 - 1000, x.1)
noncomputable def tab : Tab where
  fn := fun g => fnL.lookup g
  const := fun n => constL.lookup n
  meth := fun m => methL.lookup m
end Mine
end
section
namespace Mine
open PySem PySem.Calls
structure Wd where
  prog : Program
  w : World
  B : Heap
  gval : Nat → Value
  cW : Addr
  nm : Nat → Str
  f : Str → Option Nat
noncomputable abbrev Wd.M (X : Wd) : Model := model X.prog X.w
noncomputable abbrev Rho := List (Addr × Addr)
noncomputable def Wr (ρ : Rho) (a : Addr) : Prop := ∃ p ∈ ρ, a = p.1 ∨ a = p.2
theorem Wr.app {ρ τ : Rho} {a : Addr} : Wr (ρ ++ τ) a ↔ Wr ρ a ∨ Wr τ a := by
  unfold Wr
  constructor
  · rintro ⟨p, hp, h⟩
    rcases List.mem_append.mp hp with q | q
    · exact .inl ⟨p, q, h⟩
    · exact .inr ⟨p, q, h⟩
  · rintro (⟨p, hp, h⟩ | ⟨p, hp, h⟩)
    · exact ⟨p, List.mem_append_left _ hp, h⟩
    · exact ⟨p, List.mem_append_right _ hp, h⟩
noncomputable abbrev tupO (its : Array Value) (n : Nat) : Obj := { cls := .type "tuple", data := .seq its n }
noncomputable abbrev lstO (its : Array Value) (n : Nat) : Obj := { cls := .type "list", data := .seq its n }
noncomputable abbrev insO (C dx : Addr) : Obj := { cls := .ref C, dict := some dx, data := .plain }
noncomputable abbrev dicO (es : List DictEntry) (n : Nat) : Obj := { cls := .type "dict", data := .dict es.toArray n }
section
variable (X : Wd)
mutual
noncomputable def DRel (h : Heap) (ρ : Rho) : D → Value → Prop
  | .none, v => v = .none
  | .bool b, v => v = .bool b
  | .int i, v => ∃ t, v = .int i t
  | .str s, v => ∃ t, v = .str s t
  | .tup l, v => ∃ a its n, v = .ref a ∧ h.get? a = some (tupO its n) ∧ ¬ Wr ρ a ∧ DRels h ρ l its.toList
  | .list l, v => ∃ a its n, v = .ref a ∧ h.get? a = some (lstO its n) ∧ ¬ Wr ρ a ∧ DRels h ρ l its.toList
  | .gv g, v => v = X.gval g
  | .rng k, v => ∃ a t u w, v = .ref a ∧ IsRange h a 0 k 1 t u w ∧ ¬ Wr ρ a
noncomputable def DRels (h : Heap) (ρ : Rho) : List D → List Value → Prop
  | [], vs => vs = []
  | d :: ds, vs => ∃ v r, vs = v :: r ∧ DRel h ρ d v ∧ DRels h ρ ds r
end
noncomputable def VRel (h : Heap) (ρ : Rho) : V → Value → Prop
  | .d x, v => DRel X h ρ x v
  | .loc i, v => ∃ p, ρ[i]? = some p ∧ v = .ref p.1
noncomputable def VRels (h : Heap) (ρ : Rho) : List V → List Value → Prop
  | [], vs => vs = []
  | d :: ds, vs => ∃ v r, vs = v :: r ∧ VRel X h ρ d v ∧ VRels h ρ ds r
noncomputable def FRels (h : Heap) (ρ : Rho) : List (Nat × D) → List DictEntry → Prop
  | [], es => es = []
  | f :: fs, es => ∃ e r t, es = e :: r ∧ e.key = .str (X.nm f.1) t ∧ e.hash = PyData.keyHash X.w.params (X.nm f.1) ∧ DRel X h ρ f.2 e.val ∧ FRels h ρ fs r
noncomputable def ORel (h : Heap) (ρ : Rho) (p : Addr × Addr) : O → Prop
  | .list l => p.2 = p.1 ∧ ∃ its n, h.get? p.1 = some (lstO its n) ∧ DRels X h ρ l its.toList
  | .inst fs => h.get? p.1 = some (insO X.cW p.2) ∧ ∃ es n, h.get? p.2 = some (dicO es n) ∧ FRels X h ρ fs es
noncomputable def Apart : Rho → Prop
  | [] => True
  | p :: r => (∀ q ∈ r, p.1 ≠ q.1 ∧ p.1 ≠ q.2 ∧ p.2 ≠ q.1 ∧ p.2 ≠ q.2) ∧ Apart r
structure HRel (h : Heap) (ρ : Rho) (H : Hp) : Prop where
  len : ρ.length = H.length
  obj : ∀ (i : Nat) (p : Addr × Addr) (o : O), ρ[i]? = some p → H[i]? = some o → ORel X h ρ p o
  apart : ∀ (i j : Nat) (p q : Addr × Addr), i ≠ j → ρ[i]? = some p → ρ[j]? = some q → p.1 ≠ q.1 ∧ p.1 ≠ q.2 ∧ p.2 ≠ q.1 ∧ p.2 ≠ q.2
  above : ∀ p ∈ ρ, X.B.objs.size ≤ p.1 ∧ X.B.objs.size ≤ p.2
end
structure Step (fs : List Env) (W : Addr → Prop) (s s' : Shared) : Prop where
  gens : s'.gens = s.gens
  os : s'.os = s.os
  size : s.heap.objs.size ≤ s'.heap.objs.size
  keep : ∀ a o, s.heap.get? a = some o → ¬ W a → ∃ sl, s'.heap.get? a = some { o with slots := sl } ∧ (sl = o.slots ∨ some a ∈ fs.map (·.frame))
  flat : ∀ a o es n, s.heap.get? a = some o → o.data = .dict es n → ∃ o' es' n', s'.heap.get? a = some o' ∧ o'.data = .dict es' n'
noncomputable def Ext (ρ : Rho) (n : Nat) (ρ' : Rho) : Prop := ∃ τ, ρ' = ρ ++ τ ∧ ∀ p ∈ τ, n ≤ p.1 ∧ n ≤ p.2
theorem Ext.refl (ρ : Rho) (n : Nat) : Ext ρ n ρ := ⟨[], (List.append_nil _).symm, fun _ h => nomatch h⟩
theorem Ext.trans {ρ ρ' ρ'' : Rho} {n n' : Nat} (x : Ext ρ n ρ') (y : Ext ρ' n' ρ'') (h : n ≤ n') : Ext ρ n ρ'' := by
  refine E1A2 (x) fun τ hz1 hτ => ?_; subst hz1; try clear x
  refine E1A2 (y) fun σ hz1 hσ => ?_; subst hz1; try clear y
  refine ⟨τ ++ σ, by rw [List.append_assoc], fun p hp => ?_⟩
  rcases List.mem_append.mp hp with q | q
  · exact hτ p q
  · exact ⟨Nat.le_trans h (hσ p q).1, Nat.le_trans h (hσ p q).2⟩
theorem Ext.old {ρ ρ' : Rho} {n a : Nat} (x : Ext ρ n ρ') (h : a < n) : Wr ρ' a ↔ Wr ρ a := by
  refine E1A2 (x) fun τ hz1 hτ => ?_; subst hz1; try clear x
  rw [Wr.app]
  constructor
  · rintro (h' | ⟨p, hp, q⟩)
    · exact h'
    · have := hτ p hp
      rcases q with rfl | rfl <;> lia
  · exact .inl
theorem Ext.get {ρ ρ' : Rho} {n i : Nat} {p : Addr × Addr} (x : Ext ρ n ρ') (h : ρ[i]? = some p) : ρ'[i]? = some p := by
  refine E1A2 (x) fun τ hz1 _ => ?_; subst hz1; try clear x
  rw [List.getElem?_append_left]; exact h
  exact (List.getElem?_eq_some_iff.mp h).1
theorem Ext.len {ρ ρ' : Rho} {n : Nat} (x : Ext ρ n ρ') : ρ.length ≤ ρ'.length := by
  refine E1A2 (x) fun τ hz1 _ => ?_; subst hz1; try clear x
  rw [List.length_append]; lia
theorem Ext.take {ρ ρ' : Rho} {n : Nat} (x : Ext ρ n ρ') : ρ'.take ρ.length = ρ := by
  refine E1A2 (x) fun τ hz1 _ => ?_; subst hz1; try clear x
  simp
section
variable {fs : List Env} {W W' : Addr → Prop} {s s' s'' : Shared}
theorem Step.refl (fs : List Env) (W : Addr → Prop) (s : Shared) : Step fs W s s :=
  ⟨rfl, rfl, Nat.le_refl _, fun a o h _ => ⟨o.slots, h, .inl rfl⟩, fun a o es n h q => ⟨o, es, n, h, q⟩⟩
theorem Step.mono (x : Step fs W s s') (h : ∀ a, W a → W' a) : Step fs W' s s' :=
  ⟨x.gens, x.os, x.size, fun a o e n => x.keep a o e fun q => n (h a q), x.flat⟩
theorem Step.trans (x : Step fs W s s') (y : Step fs W' s' s'') (h : ∀ a, a < s.heap.objs.size → W' a → W a) : Step fs W s s'' := by
  refine ⟨y.gens.trans x.gens, y.os.trans x.os, Nat.le_trans x.size y.size, fun a o e n => ?_, fun a o es n e q => ?_⟩
  · refine E1A2 (x.keep a o e n) fun sl e1 q1 => ?_
    refine E1A2 (y.keep a _ e1 fun q => n (h a (Heap.lt_size e) q)) fun sl2 e2 q2 => ?_
    refine ⟨sl2, e2, ?_⟩
    rcases q2 with rfl | q2
    · exact q1
    · exact .inr q2
  · refine E3A2 (x.flat a o es n e q) fun o1 es1 n1 e1 q1 => ?_
    exact y.flat a o1 es1 n1 e1 q1
theorem Step.data (x : Step fs W s s') {a : Addr} {o : Obj} (e : s.heap.get? a = some o) (n : ¬ W a) : ∃ o', s'.heap.get? a = some o' ∧ o'.data = o.data ∧ o'.cls = o.cls ∧ o'.dict = o.dict := by
  refine E1A2 (x.keep a o e n) fun sl e1 _ => ?_
  exact ⟨_, e1, rfl, rfl, rfl⟩
end
noncomputable def StkOK (X : Wd) (fs : List Env) (h : Heap) : Prop :=
  ∀ e ∈ fs, e.scope.kind ≠ .module ∧ ∃ L o es n, e.frame = some L ∧ X.B.objs.size ≤ L ∧ h.get? L = some o ∧ o.data = .dict es n
theorem StkOK.step {X : Wd} {fs : List Env} {W : Addr → Prop} {s s' : Shared} (x : StkOK X fs s.heap) (st : Step fs W s s') : StkOK X fs s'.heap := by
  intro e he
  obtain ⟨k, L, o, es, n, f, a, g, q⟩ := x e he
  refine E3A2 (st.flat L o es n g q) fun o' es' n' g' q' => ?_
  exact ⟨k, L, o', es', n', f, a, g', q'⟩
theorem StkOK.not {X : Wd} {fs : List Env} {h : Heap} {a : Addr} {o : Obj} (x : StkOK X fs h) (e : h.get? a = some o) (n : ∀ es n, o.data ≠ .dict es n) : some a ∉ fs.map (·.frame) := by
  intro m
  refine E1A2 (List.mem_map.mp m) fun env he q => ?_
  obtain ⟨k, L, o', es, n', f, _, g, d⟩ := x env he
  rw [f] at q
  cases q
  rw [e] at g
  cases g
  exact n es n' d
theorem StkOK.low {X : Wd} {fs : List Env} {h : Heap} {a : Addr} (x : StkOK X fs h) (l : a < X.B.objs.size) : some a ∉ fs.map (·.frame) := by
  intro m
  refine E1A2 (List.mem_map.mp m) fun env he q => ?_
  obtain ⟨k, L, o', es, n', f, b, g, d⟩ := x env he
  rw [f] at q
  cases q
  exact absurd l (Nat.not_lt.mpr b)
theorem Step.get {X : Wd} {fs : List Env} {W : Addr → Prop} {s s' : Shared} (x : Step fs W s s') (S : StkOK X fs s.heap) {a : Addr} {o : Obj} (e : s.heap.get? a = some o) (n : ¬ W a)
    (hf : ∀ es n, o.data ≠ .dict es n) : s'.heap.get? a = some o := by
  refine E1A2 (x.keep a o e n) fun sl e1 q => ?_
  rcases q with rfl | q
  · exact e1
  · exact absurd q (S.not e hf)
section
variable {X : Wd} {fs : List Env} {W : Addr → Prop} {s s' : Shared} {ρ ρ' : Rho} {H : Hp}
mutual
theorem DRel.step (S : StkOK X fs s.heap) (x : Step fs (Wr ρ) s s') (e : Ext ρ s.heap.objs.size ρ') : ∀ {d : D} {v : Value}, DRel X s.heap ρ d v → DRel X s'.heap ρ' d v
  | .none, _, h => h
  | .bool _, _, h => h
  | .int _, _, h => h
  | .str _, _, h => h
  | .tup l, v, h => by
    refine E3A4 (h) fun a its n hz3 g q r => ?_; subst hz3; try clear h
    exact ⟨a, its, n, rfl, x.get S g q (fun _ _ z => by cases z), fun z => q ((e.old (Heap.lt_size g)).mp z), DRels.step S x e r⟩
  | .list l, v, h => by
    refine E3A4 (h) fun a its n hz3 g q r => ?_; subst hz3; try clear h
    exact ⟨a, its, n, rfl, x.get S g q (fun _ _ z => by cases z), fun z => q ((e.old (Heap.lt_size g)).mp z), DRels.step S x e r⟩
  | .gv _, _, h => h
  | .rng k, v, h => by
    refine E4A3 (h) fun a t u w hz4 g q => ?_; subst hz4; try clear h
    exact ⟨a, t, u, w, rfl, x.get S g q (fun _ _ z => by cases z), fun z => q ((e.old (Heap.lt_size g)).mp z)⟩
theorem DRels.step (S : StkOK X fs s.heap) (x : Step fs (Wr ρ) s s') (e : Ext ρ s.heap.objs.size ρ') : ∀ {d : List D} {v : List Value}, DRels X s.heap ρ d v → DRels X s'.heap ρ' d v
  | [], _, h => h
  | d :: ds, v, h => by
    refine E2A3 (h) fun w r hz2 a b => ?_; subst hz2; try clear h
    exact ⟨w, r, rfl, DRel.step S x e a, DRels.step S x e b⟩
end
end
end Mine
end
section
namespace Mine
noncomputable def epse {A : Type} (d : A) (P : A → Prop) : A := @Classical.epsilon _ ⟨d⟩ fun p => ¬ P p
theorem epsp {A : Type} (d : A) {P : A → Prop} (h : P (epse d P)) (a : A) : P a := Classical.byContradiction fun q => (@Classical.epsilon_spec _ (fun p => ¬ P p) ⟨a, q⟩) h
noncomputable abbrev Uc {A B : Type} (P : A → B → Prop) (p : A × B) : Prop := P p.1 p.2
noncomputable abbrev Q4 {A1 A2 A3 A4 : Type} (P : A1 → A2 → A3 → A4 → Prop) : A1 × A2 × A3 × A4 → Prop := Uc fun a => Uc fun b => Uc fun c d => P a b c d
noncomputable abbrev Pi4 {A1 A2 A3 A4 : Type} (P : A1 → A2 → A3 → A4 → Prop) : Prop := ∀ a b c d, P a b c d
theorem eps4 {A1 A2 A3 A4 : Type} (z : A1 × A2 × A3 × A4) {P : A1 → A2 → A3 → A4 → Prop} {e : A1 × A2 × A3 × A4} (he : e = epse z (Q4 P)) (h : P e.1 e.2.1 e.2.2.1 e.2.2.2) : Pi4 P := fun a b c d => epsp (P := Q4 P) z (by subst he; exact h) (a, b, c, d)
noncomputable abbrev Q7 {A1 A2 A3 A4 A5 A6 A7 : Type} (P : A1 → A2 → A3 → A4 → A5 → A6 → A7 → Prop) : A1 × A2 × A3 × A4 × A5 × A6 × A7 → Prop := Uc fun a => Uc fun b => Uc fun c => Uc fun d => Uc fun e => Uc fun f g => P a b c d e f g
noncomputable abbrev Pi7 {A1 A2 A3 A4 A5 A6 A7 : Type} (P : A1 → A2 → A3 → A4 → A5 → A6 → A7 → Prop) : Prop := ∀ a b c d e f g, P a b c d e f g
theorem eps7 {A1 A2 A3 A4 A5 A6 A7 : Type} (z : A1 × A2 × A3 × A4 × A5 × A6 × A7) {P : A1 → A2 → A3 → A4 → A5 → A6 → A7 → Prop} {e : A1 × A2 × A3 × A4 × A5 × A6 × A7} (he : e = epse z (Q7 P)) (h : P e.1 e.2.1 e.2.2.1 e.2.2.2.1 e.2.2.2.2.1 e.2.2.2.2.2.1 e.2.2.2.2.2.2) : Pi7 P := fun a b c d e f g => epsp (P := Q7 P) z (by subst he; exact h) (a, b, c, d, e, f, g)
noncomputable abbrev Q10 {A1 A2 A3 A4 A5 A6 A7 A8 A9 A10 : Type} (P : A1 → A2 → A3 → A4 → A5 → A6 → A7 → A8 → A9 → A10 → Prop) : A1 × A2 × A3 × A4 × A5 × A6 × A7 × A8 × A9 × A10 → Prop := Uc fun a => Uc fun b => Uc fun c => Uc fun d => Uc fun e => Uc fun f => Uc fun g => Uc fun i => Uc fun j k => P a b c d e f g i j k
noncomputable abbrev Pi10 {A1 A2 A3 A4 A5 A6 A7 A8 A9 A10 : Type} (P : A1 → A2 → A3 → A4 → A5 → A6 → A7 → A8 → A9 → A10 → Prop) : Prop := ∀ a b c d e f g i j k, P a b c d e f g i j k
theorem eps10 {A1 A2 A3 A4 A5 A6 A7 A8 A9 A10 : Type} (z : A1 × A2 × A3 × A4 × A5 × A6 × A7 × A8 × A9 × A10) {P : A1 → A2 → A3 → A4 → A5 → A6 → A7 → A8 → A9 → A10 → Prop} {e : A1 × A2 × A3 × A4 × A5 × A6 × A7 × A8 × A9 × A10} (he : e = epse z (Q10 P)) (h : P e.1 e.2.1 e.2.2.1 e.2.2.2.1 e.2.2.2.2.1 e.2.2.2.2.2.1 e.2.2.2.2.2.2.1 e.2.2.2.2.2.2.2.1 e.2.2.2.2.2.2.2.2.1 e.2.2.2.2.2.2.2.2.2) : Pi10 P := fun a b c d e f g i j k => epsp (P := Q10 P) z (by subst he; exact h) (a, b, c, d, e, f, g, i, j, k)
noncomputable abbrev Q13 {A1 A2 A3 A4 A5 A6 A7 A8 A9 A10 A11 A12 A13 : Type} (P : A1 → A2 → A3 → A4 → A5 → A6 → A7 → A8 → A9 → A10 → A11 → A12 → A13 → Prop) : A1 × A2 × A3 × A4 × A5 × A6 × A7 × A8 × A9 × A10 × A11 × A12 × A13 → Prop := Uc fun a => Uc fun b => Uc fun c => Uc fun d => Uc fun e => Uc fun f => Uc fun g => Uc fun i => Uc fun j => Uc fun k => Uc fun l => Uc fun m n => P a b c d e f g i j k l m n
noncomputable abbrev Pi13 {A1 A2 A3 A4 A5 A6 A7 A8 A9 A10 A11 A12 A13 : Type} (P : A1 → A2 → A3 → A4 → A5 → A6 → A7 → A8 → A9 → A10 → A11 → A12 → A13 → Prop) : Prop := ∀ a b c d e f g i j k l m n, P a b c d e f g i j k l m n
theorem eps13 {A1 A2 A3 A4 A5 A6 A7 A8 A9 A10 A11 A12 A13 : Type} (z : A1 × A2 × A3 × A4 × A5 × A6 × A7 × A8 × A9 × A10 × A11 × A12 × A13) {P : A1 → A2 → A3 → A4 → A5 → A6 → A7 → A8 → A9 → A10 → A11 → A12 → A13 → Prop} {e : A1 × A2 × A3 × A4 × A5 × A6 × A7 × A8 × A9 × A10 × A11 × A12 × A13} (he : e = epse z (Q13 P)) (h : P e.1 e.2.1 e.2.2.1 e.2.2.2.1 e.2.2.2.2.1 e.2.2.2.2.2.1 e.2.2.2.2.2.2.1 e.2.2.2.2.2.2.2.1 e.2.2.2.2.2.2.2.2.1 e.2.2.2.2.2.2.2.2.2.1 e.2.2.2.2.2.2.2.2.2.2.1 e.2.2.2.2.2.2.2.2.2.2.2.1 e.2.2.2.2.2.2.2.2.2.2.2.2) : Pi13 P := fun a b c d e f g i j k l m n => epsp (P := Q13 P) z (by subst he; exact h) (a, b, c, d, e, f, g, i, j, k, l, m, n)
noncomputable abbrev Q16 {A1 A2 A3 A4 A5 A6 A7 A8 A9 A10 A11 A12 A13 A14 A15 A16 : Type} (P : A1 → A2 → A3 → A4 → A5 → A6 → A7 → A8 → A9 → A10 → A11 → A12 → A13 → A14 → A15 → A16 → Prop) : A1 × A2 × A3 × A4 × A5 × A6 × A7 × A8 × A9 × A10 × A11 × A12 × A13 × A14 × A15 × A16 → Prop := Uc fun a => Uc fun b => Uc fun c => Uc fun d => Uc fun e => Uc fun f => Uc fun g => Uc fun i => Uc fun j => Uc fun k => Uc fun l => Uc fun m => Uc fun n => Uc fun o => Uc fun p q => P a b c d e f g i j k l m n o p q
noncomputable abbrev Pi16 {A1 A2 A3 A4 A5 A6 A7 A8 A9 A10 A11 A12 A13 A14 A15 A16 : Type} (P : A1 → A2 → A3 → A4 → A5 → A6 → A7 → A8 → A9 → A10 → A11 → A12 → A13 → A14 → A15 → A16 → Prop) : Prop := ∀ a b c d e f g i j k l m n o p q, P a b c d e f g i j k l m n o p q
theorem eps16 {A1 A2 A3 A4 A5 A6 A7 A8 A9 A10 A11 A12 A13 A14 A15 A16 : Type} (z : A1 × A2 × A3 × A4 × A5 × A6 × A7 × A8 × A9 × A10 × A11 × A12 × A13 × A14 × A15 × A16) {P : A1 → A2 → A3 → A4 → A5 → A6 → A7 → A8 → A9 → A10 → A11 → A12 → A13 → A14 → A15 → A16 → Prop} {e : A1 × A2 × A3 × A4 × A5 × A6 × A7 × A8 × A9 × A10 × A11 × A12 × A13 × A14 × A15 × A16} (he : e = epse z (Q16 P)) (h : P e.1 e.2.1 e.2.2.1 e.2.2.2.1 e.2.2.2.2.1 e.2.2.2.2.2.1 e.2.2.2.2.2.2.1 e.2.2.2.2.2.2.2.1 e.2.2.2.2.2.2.2.2.1 e.2.2.2.2.2.2.2.2.2.1 e.2.2.2.2.2.2.2.2.2.2.1 e.2.2.2.2.2.2.2.2.2.2.2.1 e.2.2.2.2.2.2.2.2.2.2.2.2.1 e.2.2.2.2.2.2.2.2.2.2.2.2.2.1 e.2.2.2.2.2.2.2.2.2.2.2.2.2.2.1 e.2.2.2.2.2.2.2.2.2.2.2.2.2.2.2) : Pi16 P := fun a b c d e f g i j k l m n o p q => epsp (P := Q16 P) z (by subst he; exact h) (a, b, c, d, e, f, g, i, j, k, l, m, n, o, p, q)
noncomputable abbrev Q19 {A1 A2 A3 A4 A5 A6 A7 A8 A9 A10 A11 A12 A13 A14 A15 A16 A17 A18 A19 : Type} (P : A1 → A2 → A3 → A4 → A5 → A6 → A7 → A8 → A9 → A10 → A11 → A12 → A13 → A14 → A15 → A16 → A17 → A18 → A19 → Prop) : A1 × A2 × A3 × A4 × A5 × A6 × A7 × A8 × A9 × A10 × A11 × A12 × A13 × A14 × A15 × A16 × A17 × A18 × A19 → Prop := Uc fun a => Uc fun b => Uc fun c => Uc fun d => Uc fun e => Uc fun f => Uc fun g => Uc fun i => Uc fun j => Uc fun k => Uc fun l => Uc fun m => Uc fun n => Uc fun o => Uc fun p => Uc fun q => Uc fun r => Uc fun s t => P a b c d e f g i j k l m n o p q r s t
noncomputable abbrev Pi19 {A1 A2 A3 A4 A5 A6 A7 A8 A9 A10 A11 A12 A13 A14 A15 A16 A17 A18 A19 : Type} (P : A1 → A2 → A3 → A4 → A5 → A6 → A7 → A8 → A9 → A10 → A11 → A12 → A13 → A14 → A15 → A16 → A17 → A18 → A19 → Prop) : Prop := ∀ a b c d e f g i j k l m n o p q r s t, P a b c d e f g i j k l m n o p q r s t
theorem eps19 {A1 A2 A3 A4 A5 A6 A7 A8 A9 A10 A11 A12 A13 A14 A15 A16 A17 A18 A19 : Type} (z : A1 × A2 × A3 × A4 × A5 × A6 × A7 × A8 × A9 × A10 × A11 × A12 × A13 × A14 × A15 × A16 × A17 × A18 × A19) {P : A1 → A2 → A3 → A4 → A5 → A6 → A7 → A8 → A9 → A10 → A11 → A12 → A13 → A14 → A15 → A16 → A17 → A18 → A19 → Prop} {e : A1 × A2 × A3 × A4 × A5 × A6 × A7 × A8 × A9 × A10 × A11 × A12 × A13 × A14 × A15 × A16 × A17 × A18 × A19} (he : e = epse z (Q19 P)) (h : P e.1 e.2.1 e.2.2.1 e.2.2.2.1 e.2.2.2.2.1 e.2.2.2.2.2.1 e.2.2.2.2.2.2.1 e.2.2.2.2.2.2.2.1 e.2.2.2.2.2.2.2.2.1 e.2.2.2.2.2.2.2.2.2.1 e.2.2.2.2.2.2.2.2.2.2.1 e.2.2.2.2.2.2.2.2.2.2.2.1 e.2.2.2.2.2.2.2.2.2.2.2.2.1 e.2.2.2.2.2.2.2.2.2.2.2.2.2.1 e.2.2.2.2.2.2.2.2.2.2.2.2.2.2.1 e.2.2.2.2.2.2.2.2.2.2.2.2.2.2.2.1 e.2.2.2.2.2.2.2.2.2.2.2.2.2.2.2.2.1 e.2.2.2.2.2.2.2.2.2.2.2.2.2.2.2.2.2.1 e.2.2.2.2.2.2.2.2.2.2.2.2.2.2.2.2.2.2) : Pi19 P := fun a b c d e f g i j k l m n o p q r s t => epsp (P := Q19 P) z (by subst he; exact h) (a, b, c, d, e, f, g, i, j, k, l, m, n, o, p, q, r, s, t)
noncomputable abbrev Q22 {A1 A2 A3 A4 A5 A6 A7 A8 A9 A10 A11 A12 A13 A14 A15 A16 A17 A18 A19 A20 A21 A22 : Type} (P : A1 → A2 → A3 → A4 → A5 → A6 → A7 → A8 → A9 → A10 → A11 → A12 → A13 → A14 → A15 → A16 → A17 → A18 → A19 → A20 → A21 → A22 → Prop) : A1 × A2 × A3 × A4 × A5 × A6 × A7 × A8 × A9 × A10 × A11 × A12 × A13 × A14 × A15 × A16 × A17 × A18 × A19 × A20 × A21 × A22 → Prop := Uc fun a => Uc fun b => Uc fun c => Uc fun d => Uc fun e => Uc fun f => Uc fun g => Uc fun i => Uc fun j => Uc fun k => Uc fun l => Uc fun m => Uc fun n => Uc fun o => Uc fun p => Uc fun q => Uc fun r => Uc fun s => Uc fun t => Uc fun u => Uc fun v w => P a b c d e f g i j k l m n o p q r s t u v w
noncomputable abbrev Pi22 {A1 A2 A3 A4 A5 A6 A7 A8 A9 A10 A11 A12 A13 A14 A15 A16 A17 A18 A19 A20 A21 A22 : Type} (P : A1 → A2 → A3 → A4 → A5 → A6 → A7 → A8 → A9 → A10 → A11 → A12 → A13 → A14 → A15 → A16 → A17 → A18 → A19 → A20 → A21 → A22 → Prop) : Prop := ∀ a b c d e f g i j k l m n o p q r s t u v w, P a b c d e f g i j k l m n o p q r s t u v w
theorem eps22 {A1 A2 A3 A4 A5 A6 A7 A8 A9 A10 A11 A12 A13 A14 A15 A16 A17 A18 A19 A20 A21 A22 : Type} (z : A1 × A2 × A3 × A4 × A5 × A6 × A7 × A8 × A9 × A10 × A11 × A12 × A13 × A14 × A15 × A16 × A17 × A18 × A19 × A20 × A21 × A22) {P : A1 → A2 → A3 → A4 → A5 → A6 → A7 → A8 → A9 → A10 → A11 → A12 → A13 → A14 → A15 → A16 → A17 → A18 → A19 → A20 → A21 → A22 → Prop} {e : A1 × A2 × A3 × A4 × A5 × A6 × A7 × A8 × A9 × A10 × A11 × A12 × A13 × A14 × A15 × A16 × A17 × A18 × A19 × A20 × A21 × A22} (he : e = epse z (Q22 P)) (h : P e.1 e.2.1 e.2.2.1 e.2.2.2.1 e.2.2.2.2.1 e.2.2.2.2.2.1 e.2.2.2.2.2.2.1 e.2.2.2.2.2.2.2.1 e.2.2.2.2.2.2.2.2.1 e.2.2.2.2.2.2.2.2.2.1 e.2.2.2.2.2.2.2.2.2.2.1 e.2.2.2.2.2.2.2.2.2.2.2.1 e.2.2.2.2.2.2.2.2.2.2.2.2.1 e.2.2.2.2.2.2.2.2.2.2.2.2.2.1 e.2.2.2.2.2.2.2.2.2.2.2.2.2.2.1 e.2.2.2.2.2.2.2.2.2.2.2.2.2.2.2.1 e.2.2.2.2.2.2.2.2.2.2.2.2.2.2.2.2.1 e.2.2.2.2.2.2.2.2.2.2.2.2.2.2.2.2.2.1 e.2.2.2.2.2.2.2.2.2.2.2.2.2.2.2.2.2.2.1 e.2.2.2.2.2.2.2.2.2.2.2.2.2.2.2.2.2.2.2.1 e.2.2.2.2.2.2.2.2.2.2.2.2.2.2.2.2.2.2.2.2.1 e.2.2.2.2.2.2.2.2.2.2.2.2.2.2.2.2.2.2.2.2.2) : Pi22 P := fun a b c d e f g i j k l m n o p q r s t u v w => epsp (P := Q22 P) z (by subst he; exact h) (a, b, c, d, e, f, g, i, j, k, l, m, n, o, p, q, r, s, t, u, v, w)
noncomputable abbrev Q25 {A1 A2 A3 A4 A5 A6 A7 A8 A9 A10 A11 A12 A13 A14 A15 A16 A17 A18 A19 A20 A21 A22 A23 A24 A25 : Type} (P : A1 → A2 → A3 → A4 → A5 → A6 → A7 → A8 → A9 → A10 → A11 → A12 → A13 → A14 → A15 → A16 → A17 → A18 → A19 → A20 → A21 → A22 → A23 → A24 → A25 → Prop) : A1 × A2 × A3 × A4 × A5 × A6 × A7 × A8 × A9 × A10 × A11 × A12 × A13 × A14 × A15 × A16 × A17 × A18 × A19 × A20 × A21 × A22 × A23 × A24 × A25 → Prop := Uc fun a => Uc fun b => Uc fun c => Uc fun d => Uc fun e => Uc fun f => Uc fun g => Uc fun i => Uc fun j => Uc fun k => Uc fun l => Uc fun m => Uc fun n => Uc fun o => Uc fun p => Uc fun q => Uc fun r => Uc fun s => Uc fun t => Uc fun u => Uc fun v => Uc fun w => Uc fun x => Uc fun y A' => P a b c d e f g i j k l m n o p q r s t u v w x y A'
noncomputable abbrev Pi25 {A1 A2 A3 A4 A5 A6 A7 A8 A9 A10 A11 A12 A13 A14 A15 A16 A17 A18 A19 A20 A21 A22 A23 A24 A25 : Type} (P : A1 → A2 → A3 → A4 → A5 → A6 → A7 → A8 → A9 → A10 → A11 → A12 → A13 → A14 → A15 → A16 → A17 → A18 → A19 → A20 → A21 → A22 → A23 → A24 → A25 → Prop) : Prop := ∀ a b c d e f g i j k l m n o p q r s t u v w x y A', P a b c d e f g i j k l m n o p q r s t u v w x y A'
theorem eps25 {A1 A2 A3 A4 A5 A6 A7 A8 A9 A10 A11 A12 A13 A14 A15 A16 A17 A18 A19 A20 A21 A22 A23 A24 A25 : Type} (z : A1 × A2 × A3 × A4 × A5 × A6 × A7 × A8 × A9 × A10 × A11 × A12 × A13 × A14 × A15 × A16 × A17 × A18 × A19 × A20 × A21 × A22 × A23 × A24 × A25) {P : A1 → A2 → A3 → A4 → A5 → A6 → A7 → A8 → A9 → A10 → A11 → A12 → A13 → A14 → A15 → A16 → A17 → A18 → A19 → A20 → A21 → A22 → A23 → A24 → A25 → Prop} {e : A1 × A2 × A3 × A4 × A5 × A6 × A7 × A8 × A9 × A10 × A11 × A12 × A13 × A14 × A15 × A16 × A17 × A18 × A19 × A20 × A21 × A22 × A23 × A24 × A25} (he : e = epse z (Q25 P)) (h : P e.1 e.2.1 e.2.2.1 e.2.2.2.1 e.2.2.2.2.1 e.2.2.2.2.2.1 e.2.2.2.2.2.2.1 e.2.2.2.2.2.2.2.1 e.2.2.2.2.2.2.2.2.1 e.2.2.2.2.2.2.2.2.2.1 e.2.2.2.2.2.2.2.2.2.2.1 e.2.2.2.2.2.2.2.2.2.2.2.1 e.2.2.2.2.2.2.2.2.2.2.2.2.1 e.2.2.2.2.2.2.2.2.2.2.2.2.2.1 e.2.2.2.2.2.2.2.2.2.2.2.2.2.2.1 e.2.2.2.2.2.2.2.2.2.2.2.2.2.2.2.1 e.2.2.2.2.2.2.2.2.2.2.2.2.2.2.2.2.1 e.2.2.2.2.2.2.2.2.2.2.2.2.2.2.2.2.2.1 e.2.2.2.2.2.2.2.2.2.2.2.2.2.2.2.2.2.2.1 e.2.2.2.2.2.2.2.2.2.2.2.2.2.2.2.2.2.2.2.1 e.2.2.2.2.2.2.2.2.2.2.2.2.2.2.2.2.2.2.2.2.1 e.2.2.2.2.2.2.2.2.2.2.2.2.2.2.2.2.2.2.2.2.2.1 e.2.2.2.2.2.2.2.2.2.2.2.2.2.2.2.2.2.2.2.2.2.2.1 e.2.2.2.2.2.2.2.2.2.2.2.2.2.2.2.2.2.2.2.2.2.2.2.1 e.2.2.2.2.2.2.2.2.2.2.2.2.2.2.2.2.2.2.2.2.2.2.2.2) : Pi25 P := fun a b c d e f g i j k l m n o p q r s t u v w x y A' => epsp (P := Q25 P) z (by subst he; exact h) (a, b, c, d, e, f, g, i, j, k, l, m, n, o, p, q, r, s, t, u, v, w, x, y, A')
noncomputable abbrev Q28 {A1 A2 A3 A4 A5 A6 A7 A8 A9 A10 A11 A12 A13 A14 A15 A16 A17 A18 A19 A20 A21 A22 A23 A24 A25 A26 A27 A28 : Type} (P : A1 → A2 → A3 → A4 → A5 → A6 → A7 → A8 → A9 → A10 → A11 → A12 → A13 → A14 → A15 → A16 → A17 → A18 → A19 → A20 → A21 → A22 → A23 → A24 → A25 → A26 → A27 → A28 → Prop) : A1 × A2 × A3 × A4 × A5 × A6 × A7 × A8 × A9 × A10 × A11 × A12 × A13 × A14 × A15 × A16 × A17 × A18 × A19 × A20 × A21 × A22 × A23 × A24 × A25 × A26 × A27 × A28 → Prop := Uc fun a => Uc fun b => Uc fun c => Uc fun d => Uc fun e => Uc fun f => Uc fun g => Uc fun i => Uc fun j => Uc fun k => Uc fun l => Uc fun m => Uc fun n => Uc fun o => Uc fun p => Uc fun q => Uc fun r => Uc fun s => Uc fun t => Uc fun u => Uc fun v => Uc fun w => Uc fun x => Uc fun y => Uc fun A' => Uc fun B' => Uc fun C' D' => P a b c d e f g i j k l m n o p q r s t u v w x y A' B' C' D'
noncomputable abbrev Pi28 {A1 A2 A3 A4 A5 A6 A7 A8 A9 A10 A11 A12 A13 A14 A15 A16 A17 A18 A19 A20 A21 A22 A23 A24 A25 A26 A27 A28 : Type} (P : A1 → A2 → A3 → A4 → A5 → A6 → A7 → A8 → A9 → A10 → A11 → A12 → A13 → A14 → A15 → A16 → A17 → A18 → A19 → A20 → A21 → A22 → A23 → A24 → A25 → A26 → A27 → A28 → Prop) : Prop := ∀ a b c d e f g i j k l m n o p q r s t u v w x y A' B' C' D', P a b c d e f g i j k l m n o p q r s t u v w x y A' B' C' D'
theorem eps28 {A1 A2 A3 A4 A5 A6 A7 A8 A9 A10 A11 A12 A13 A14 A15 A16 A17 A18 A19 A20 A21 A22 A23 A24 A25 A26 A27 A28 : Type} (z : A1 × A2 × A3 × A4 × A5 × A6 × A7 × A8 × A9 × A10 × A11 × A12 × A13 × A14 × A15 × A16 × A17 × A18 × A19 × A20 × A21 × A22 × A23 × A24 × A25 × A26 × A27 × A28) {P : A1 → A2 → A3 → A4 → A5 → A6 → A7 → A8 → A9 → A10 → A11 → A12 → A13 → A14 → A15 → A16 → A17 → A18 → A19 → A20 → A21 → A22 → A23 → A24 → A25 → A26 → A27 → A28 → Prop} {e : A1 × A2 × A3 × A4 × A5 × A6 × A7 × A8 × A9 × A10 × A11 × A12 × A13 × A14 × A15 × A16 × A17 × A18 × A19 × A20 × A21 × A22 × A23 × A24 × A25 × A26 × A27 × A28} (he : e = epse z (Q28 P)) (h : P e.1 e.2.1 e.2.2.1 e.2.2.2.1 e.2.2.2.2.1 e.2.2.2.2.2.1 e.2.2.2.2.2.2.1 e.2.2.2.2.2.2.2.1 e.2.2.2.2.2.2.2.2.1 e.2.2.2.2.2.2.2.2.2.1 e.2.2.2.2.2.2.2.2.2.2.1 e.2.2.2.2.2.2.2.2.2.2.2.1 e.2.2.2.2.2.2.2.2.2.2.2.2.1 e.2.2.2.2.2.2.2.2.2.2.2.2.2.1 e.2.2.2.2.2.2.2.2.2.2.2.2.2.2.1 e.2.2.2.2.2.2.2.2.2.2.2.2.2.2.2.1 e.2.2.2.2.2.2.2.2.2.2.2.2.2.2.2.2.1 e.2.2.2.2.2.2.2.2.2.2.2.2.2.2.2.2.2.1 e.2.2.2.2.2.2.2.2.2.2.2.2.2.2.2.2.2.2.1 e.2.2.2.2.2.2.2.2.2.2.2.2.2.2.2.2.2.2.2.1 e.2.2.2.2.2.2.2.2.2.2.2.2.2.2.2.2.2.2.2.2.1 e.2.2.2.2.2.2.2.2.2.2.2.2.2.2.2.2.2.2.2.2.2.1 e.2.2.2.2.2.2.2.2.2.2.2.2.2.2.2.2.2.2.2.2.2.2.1 e.2.2.2.2.2.2.2.2.2.2.2.2.2.2.2.2.2.2.2.2.2.2.2.1 e.2.2.2.2.2.2.2.2.2.2.2.2.2.2.2.2.2.2.2.2.2.2.2.2.1 e.2.2.2.2.2.2.2.2.2.2.2.2.2.2.2.2.2.2.2.2.2.2.2.2.2.1 e.2.2.2.2.2.2.2.2.2.2.2.2.2.2.2.2.2.2.2.2.2.2.2.2.2.2.1 e.2.2.2.2.2.2.2.2.2.2.2.2.2.2.2.2.2.2.2.2.2.2.2.2.2.2.2) : Pi28 P := fun a b c d e f g i j k l m n o p q r s t u v w x y A' B' C' D' => epsp (P := Q28 P) z (by subst he; exact h) (a, b, c, d, e, f, g, i, j, k, l, m, n, o, p, q, r, s, t, u, v, w, x, y, A', B', C', D')
noncomputable abbrev Q31 {A1 A2 A3 A4 A5 A6 A7 A8 A9 A10 A11 A12 A13 A14 A15 A16 A17 A18 A19 A20 A21 A22 A23 A24 A25 A26 A27 A28 A29 A30 A31 : Type} (P : A1 → A2 → A3 → A4 → A5 → A6 → A7 → A8 → A9 → A10 → A11 → A12 → A13 → A14 → A15 → A16 → A17 → A18 → A19 → A20 → A21 → A22 → A23 → A24 → A25 → A26 → A27 → A28 → A29 → A30 → A31 → Prop) : A1 × A2 × A3 × A4 × A5 × A6 × A7 × A8 × A9 × A10 × A11 × A12 × A13 × A14 × A15 × A16 × A17 × A18 × A19 × A20 × A21 × A22 × A23 × A24 × A25 × A26 × A27 × A28 × A29 × A30 × A31 → Prop := Uc fun a => Uc fun b => Uc fun c => Uc fun d => Uc fun e => Uc fun f => Uc fun g => Uc fun i => Uc fun j => Uc fun k => Uc fun l => Uc fun m => Uc fun n => Uc fun o => Uc fun p => Uc fun q => Uc fun r => Uc fun s => Uc fun t => Uc fun u => Uc fun v => Uc fun w => Uc fun x => Uc fun y => Uc fun A' => Uc fun B' => Uc fun C' => Uc fun D' => Uc fun E' => Uc fun F' G' => P a b c d e f g i j k l m n o p q r s t u v w x y A' B' C' D' E' F' G'
noncomputable abbrev Pi31 {A1 A2 A3 A4 A5 A6 A7 A8 A9 A10 A11 A12 A13 A14 A15 A16 A17 A18 A19 A20 A21 A22 A23 A24 A25 A26 A27 A28 A29 A30 A31 : Type} (P : A1 → A2 → A3 → A4 → A5 → A6 → A7 → A8 → A9 → A10 → A11 → A12 → A13 → A14 → A15 → A16 → A17 → A18 → A19 → A20 → A21 → A22 → A23 → A24 → A25 → A26 → A27 → A28 → A29 → A30 → A31 → Prop) : Prop := ∀ a b c d e f g i j k l m n o p q r s t u v w x y A' B' C' D' E' F' G', P a b c d e f g i j k l m n o p q r s t u v w x y A' B' C' D' E' F' G'
theorem eps31 {A1 A2 A3 A4 A5 A6 A7 A8 A9 A10 A11 A12 A13 A14 A15 A16 A17 A18 A19 A20 A21 A22 A23 A24 A25 A26 A27 A28 A29 A30 A31 : Type} (z : A1 × A2 × A3 × A4 × A5 × A6 × A7 × A8 × A9 × A10 × A11 × A12 × A13 × A14 × A15 × A16 × A17 × A18 × A19 × A20 × A21 × A22 × A23 × A24 × A25 × A26 × A27 × A28 × A29 × A30 × A31) {P : A1 → A2 → A3 → A4 → A5 → A6 → A7 → A8 → A9 → A10 → A11 → A12 → A13 → A14 → A15 → A16 → A17 → A18 → A19 → A20 → A21 → A22 → A23 → A24 → A25 → A26 → A27 → A28 → A29 → A30 → A31 → Prop} {e : A1 × A2 × A3 × A4 × A5 × A6 × A7 × A8 × A9 × A10 × A11 × A12 × A13 × A14 × A15 × A16 × A17 × A18 × A19 × A20 × A21 × A22 × A23 × A24 × A25 × A26 × A27 × A28 × A29 × A30 × A31} (he : e = epse z (Q31 P)) (h : P e.1 e.2.1 e.2.2.1 e.2.2.2.1 e.2.2.2.2.1 e.2.2.2.2.2.1 e.2.2.2.2.2.2.1 e.2.2.2.2.2.2.2.1 e.2.2.2.2.2.2.2.2.1 e.2.2.2.2.2.2.2.2.2.1 e.2.2.2.2.2.2.2.2.2.2.1 e.2.2.2.2.2.2.2.2.2.2.2.1 e.2.2.2.2.2.2.2.2.2.2.2.2.1 e.2.2.2.2.2.2.2.2.2.2.2.2.2.1 e.2.2.2.2.2.2.2.2.2.2.2.2.2.2.1 e.2.2.2.2.2.2.2.2.2.2.2.2.2.2.2.1 e.2.2.2.2.2.2.2.2.2.2.2.2.2.2.2.2.1 e.2.2.2.2.2.2.2.2.2.2.2.2.2.2.2.2.2.1 e.2.2.2.2.2.2.2.2.2.2.2.2.2.2.2.2.2.2.1 e.2.2.2.2.2.2.2.2.2.2.2.2.2.2.2.2.2.2.2.1 e.2.2.2.2.2.2.2.2.2.2.2.2.2.2.2.2.2.2.2.2.1 e.2.2.2.2.2.2.2.2.2.2.2.2.2.2.2.2.2.2.2.2.2.1 e.2.2.2.2.2.2.2.2.2.2.2.2.2.2.2.2.2.2.2.2.2.2.1 e.2.2.2.2.2.2.2.2.2.2.2.2.2.2.2.2.2.2.2.2.2.2.2.1 e.2.2.2.2.2.2.2.2.2.2.2.2.2.2.2.2.2.2.2.2.2.2.2.2.1 e.2.2.2.2.2.2.2.2.2.2.2.2.2.2.2.2.2.2.2.2.2.2.2.2.2.1 e.2.2.2.2.2.2.2.2.2.2.2.2.2.2.2.2.2.2.2.2.2.2.2.2.2.2.1 e.2.2.2.2.2.2.2.2.2.2.2.2.2.2.2.2.2.2.2.2.2.2.2.2.2.2.2.1 e.2.2.2.2.2.2.2.2.2.2.2.2.2.2.2.2.2.2.2.2.2.2.2.2.2.2.2.2.1 e.2.2.2.2.2.2.2.2.2.2.2.2.2.2.2.2.2.2.2.2.2.2.2.2.2.2.2.2.2.1 e.2.2.2.2.2.2.2.2.2.2.2.2.2.2.2.2.2.2.2.2.2.2.2.2.2.2.2.2.2.2) : Pi31 P := fun a b c d e f g i j k l m n o p q r s t u v w x y A' B' C' D' E' F' G' => epsp (P := Q31 P) z (by subst he; exact h) (a, b, c, d, e, f, g, i, j, k, l, m, n, o, p, q, r, s, t, u, v, w, x, y, A', B', C', D', E', F', G')
end Mine
end
section
namespace Mine
open PySem
noncomputable def dW : World := W.aWorld 1
noncomputable def dX : Wd := ⟨default, dW, default, fun _ => .none, 0, fun _ => default, fun _ => none⟩
noncomputable def dT : Tab := ⟨fun _ => none, fun _ => none, fun _ => none⟩
noncomputable def dS : Shared := {}
noncomputable def dA : Around := {}
noncomputable def dM : Model := model default dW
noncomputable def dF : Fn := ⟨[], [], [], []⟩
noncomputable def dD : Drawn := {}
noncomputable def dQ : TryQ := ⟨default, default, default, default, default, default, default⟩
noncomputable def dN : Nat := 0
noncomputable def dK : Ks := []
noncomputable def dL : Loc := []
noncomputable def dH : Hp := []
noncomputable def dR : Rho := []
noncomputable def dE : Env := default
noncomputable def dG : List Env := []
noncomputable def dV : Value := default
noncomputable def dv : V := .loc 0
noncomputable def dd : D := .none
noncomputable def de : PySem.Expr := default
noncomputable def ds : Str := default
noncomputable def dp : Pos := default
noncomputable def df : W.Frag := []
noncomputable def dh : Heap := default
noncomputable def dl : List PySem.Expr := []
noncomputable def db : List Stmt := []
noncomputable def dI : Int := 0
noncomputable def dB : Bool := false
noncomputable def do' : O := .list []
noncomputable def du : List D := []
noncomputable def dq : Value → Shared → Prop := fun _ _ => True
noncomputable def dr : List (Nat × NameKind) := []
end Mine
end
section
namespace Mine
open PySem PySem.Calls
theorem runs_size {M : Model} {Γ : Ctx} {p : Pos} {t : Sem Fin} {fs : List Frame} {s s' : Shared} {e : End} (h : Runs M Γ p t fs s e s') : s.heap.objs.size ≤ s'.heap.objs.size := by
  induction h with
  | update _ _ ih => simpa [Heap.update] using ih
  | alloc _ ih => refine Nat.le_trans ?_ ih; simp [Heap.push]
  | _ => first | exact Nat.le_refl _ | assumption | (rename_i a b; exact Nat.le_trans a b) | (rename_i a b c; exact Nat.le_trans a c) | (rename_i a b c d; exact Nat.le_trans b d) | (rename_i a b c d; exact Nat.le_trans a d)
theorem wp_size {M : Model} {Γ : Ctx} {α : Type} (n : Nat) : ∀ (t : Sem α) {Q : α → Pos → Shared → Prop} {E : Value → Pos → Shared → Prop} {p : Pos} {s : Shared}, n ≤ s.heap.objs.size →
    Sem.wp M Γ t Q E p s → Sem.wp M Γ t (fun a p' s' => Q a p' s' ∧ n ≤ s'.heap.objs.size) (fun a p' s' => E a p' s' ∧ n ≤ s'.heap.objs.size) p s := by
  intro t
  induction t with
  | pure a => exact fun h w => ⟨w, h⟩
  | raise a => exact fun h w => ⟨w, h⟩
  | unsupported | finish | yield | fork | await | register => exact fun _ w => w
  | rule _ k ih | «at» _ k ih | loadIfAlive _ k ih | point _ k ih | fresh k ih | ask k ih | os _ _ k ih | handled _ k ih | newGen _ k ih | stack k ih | thread k ih => exact fun h w => ih _ (by exact h) w
  | alloc o k ih => exact fun h w => ih _ (by show n ≤ (Array.push _ _).size; rw [Array.size_push]; exact Nat.le_succ_of_le h) w
  | load a _ k ih | genState a k ih => exact fun h ⟨o, ho, w⟩ => ⟨o, ho, ih _ h w⟩
  | update a _ f k ih => exact fun h ⟨ha, w⟩ => ⟨ha, ih _ (by simpa [Heap.update] using h) w⟩
  | choose _ _ k ih => exact fun h ⟨ha, w⟩ => ⟨ha, ih _ (by exact h) w⟩
  | call c h g l k ih => exact fun hn ⟨r, s', hr, w⟩ => ⟨r, s', hr, ih r (Nat.le_trans hn (runs_size hr)) w⟩
  | resume g r l k ih =>
    rintro Q E p s hn ⟨res, s', hw, w⟩
    refine ⟨res, s', hw, ih res (Nat.le_trans hn ?_) w⟩
    delta Wakes at hw
    revert hw
    cases s.gens[g]? with
    | none => exact fun hw => hw.elim
    | some y =>
      have st : ∀ {k p' Γ' fs'}, (∃ e₁ s₁, Runs M Γ' p' k fs' (s.setGen g .running) e₁ s₁ ∧ e₁.quiet = true ∧ res = e₁.result ∧ s' = s₁.setGen g e₁.genState) → s.heap.objs.size ≤ s'.heap.objs.size := fun hw => by
        refine E2A4 (hw) fun e s1 h1 _ _ hz5 => ?_; subst hz5; try clear hw
        exact runs_size (s := s.setGen _ _) (s' := s1) h1
      cases y with
      | fresh c =>
        cases r with
        | throw x => exact fun hw => Nat.le_of_eq (by rw [hw.2]; rfl)
        | send v =>
          induction v with
          | none => exact st
          | _ => exact fun hw => Nat.le_of_eq (by rw [hw.2])
      | suspended => exact st
      | running => exact fun hw => Nat.le_of_eq (by rw [hw.2])
      | finished => exact fun hw => Nat.le_of_eq (by rw [hw.2])
theorem wpAny_size {M : Model} {A : Around} {α : Type} {t : Sem α} {Q : α → Shared → Prop} {E : Value → Shared → Prop} {s : Shared} (h : wpAny M A t Q E s) :
    wpAny M A t (fun a s' => Q a s' ∧ s.heap.objs.size ≤ s'.heap.objs.size) (fun a s' => E a s' ∧ s.heap.objs.size ≤ s'.heap.objs.size) s :=
  fun Γ p hΓ => wp_size _ t (Nat.le_refl _) (h Γ p hΓ)
end Mine
end
section
namespace Mine
open PySem PySem.Calls
structure Inv (X : Wd) (fs : List Env) (ρ : Rho) (H : Hp) (s : Shared) : Prop where
  rel : HRel X s.heap ρ H
  base : ∀ b o, X.B.get? b = some o → s.heap.get? b = some o
  stk : StkOK X fs s.heap
  off : ∀ e ∈ fs, ∀ L, e.frame = some L → ¬ Wr ρ L
  sz : X.B.objs.size ≤ s.heap.objs.size
structure FrRel (X : Wd) (env : Env) (ks : Ks) (loc : Loc) (ρ : Rho) (h : Heap) : Prop where
  ns : ∃ m, h.Ns env.locals m ∧ ∀ n v, ks.lookup n = some .local → loc.lookup n = some v → ∃ val, m (X.nm n) = some val ∧ VRel X h ρ v val
  cel : ∀ n, (ks.lookup n = some .cell ∨ ks.lookup n = some .free) → ∃ c o cv, env.cells.lookup (X.nm n) = some c ∧ h.get? c = some o ∧ o.data = .cell cv ∧ ¬ Wr ρ c ∧
    ∀ v, loc.lookup n = some v → ∃ val, cv = some val ∧ VRel X h ρ v val
  dom : ∀ n v, loc.lookup n = some v → X.f (X.nm n) = some n ∧ (ks.lookup n = some .local ∨ ks.lookup n = some .cell ∨ ks.lookup n = some .free)
  off : ¬ Wr ρ env.locals
structure EnvOK (X : Wd) (env : Env) (ks : Ks) : Prop where
  kind : env.scope.kind = .function
  kinds : ∀ x n, X.f x = some n → env.kindOf x = (ks.lookup n).map fun k => if k = .free then .cell else k
  glob : env.globals = mainGlobals
  blt : env.builtins = builtinsNs
  cinj : ∀ x y c, env.cells.lookup x = some c → env.cells.lookup y = some c → x = y
  abv : X.B.objs.size ≤ env.locals
  cabv : ∀ x c, env.cells.lookup x = some c → X.B.objs.size ≤ c ∧ c ≠ env.locals
structure NamesOK (X : Wd) : Prop where
  inj : ∀ x n, X.f x = some n → x = X.nm n
  dbg : X.f (Str.ofString "__debug__") = Option.none
  nmInj : ∀ a b, X.nm a = X.nm b → a = b
structure AOK (n : Nat) (A : Around) (fs : List Env) : Prop where
  handled : A.handled = none
  guards : A.guards = some []
  frames : A.frames = some fs
  depth : A.depth + 2 * n + 2 ≤ 900
  units : A.units + 16 * n + 60 ≤ 9000
theorem AOK.le {n m : Nat} {A : Around} {fs : List Env} (x : AOK n A fs) (h : m ≤ n) : AOK m A fs :=
  ⟨x.handled, x.guards, x.frames, by have := x.depth; lia, by have := x.units; lia⟩
theorem AOK.room {n : Nat} {A : Around} {fs : List Env} (x : AOK n A fs) : A.depth < recursionLimit := by have := x.depth; unfold recursionLimit; lia
theorem AOK.croom {n : Nat} {A : Around} {fs : List Env} (x : AOK n A fs) : A.units < cLine := by have := x.units; unfold cLine; lia
inductive ExcRel (X : Wd) (cG : Addr) (n : Nat) (h : Heap) (ρ : Rho) (e : Value) (m : Str) (sp : D) : Prop
  | intro (x dx : Addr) (vs : Array Value) (sl : Array (Option Value)) (es : List DictEntry) (k : Nat) (e1 : e = .ref x) (l1 : n ≤ x) (l2 : n ≤ dx) (w1 : ¬ Wr ρ x) (w2 : ¬ Wr ρ dx) (ne : x ≠ dx)
    (g1 : h.get? x = some { cls := .ref cG, dict := some dx, data := .fields vs, slots := sl }) (g2 : h.get? dx = some (dicO es k)) (fr : FRels X h ρ [(16, .str m), (17, sp)] es) (sz : 5 < vs.size)
    (tr : vs[1]? = some .none ∨ ∃ T oT ts, vs[1]? = some (.ref T) ∧ n ≤ T ∧ T ≠ x ∧ ¬ Wr ρ T ∧ h.get? T = some oT ∧ oT.data = .fields ts ∧ 3 < ts.size ∧ oT.cls = .type "traceback")
inductive JOk (X : Wd) (fs : List Env) (own : Addr → Prop) (ρ : Rho) (s : Shared) {α β : Type} (Rel : Heap → Rho → β → α → Prop) (b : β) (H' : Hp) (a : α) (s' : Shared) : Prop
  | intro (ρ' : Rho) (e : Ext ρ s.heap.objs.size ρ') (I : Inv X fs ρ' H' s') (R : Rel s'.heap ρ' b a) (S : Step fs (fun a => own a ∨ Wr ρ a) s s')
inductive JEx (X : Wd) (cG : Addr) (fs : List Env) (own : Addr → Prop) (ρ : Rho) (s : Shared) (m : Str) (sp : D) (H' : Hp) (e : Value) (s' : Shared) : Prop
  | intro (ρ' : Rho) (x : Ext ρ s.heap.objs.size ρ') (I : Inv X fs ρ' H' s') (R : ExcRel X cG s.heap.objs.size s'.heap ρ' e m sp) (S : Step fs (fun a => own a ∨ Wr ρ a) s s')
noncomputable def JE (X : Wd) (cG : Addr) (fs : List Env) {α β : Type} (A : Around) (t : Sem α) (Rel : Heap → Rho → β → α → Prop) (own : Addr → Prop) (ρ : Rho) (r : R β) (s : Shared) : Prop :=
  match r with
  | .bad => True
  | .ok b H' => wpAny X.M A t (JOk X fs own ρ s Rel b H') (fun _ _ => False) s
  | .exc m sp H' => wpAny X.M A t (fun _ _ => False) (JEx X cG fs own ρ s m sp H') s
noncomputable def noOwn : Addr → Prop := fun _ => False
section
variable {X : Wd} {cG : Addr} {fs : List Env} {A : Around} {own own' : Addr → Prop} {s s' : Shared} {ρ ρ' : Rho}
theorem ExcRel.down {n n' : Nat} {h : Heap} {e : Value} {m : Str} {sp : D} (x : ExcRel X cG n h ρ e m sp) (l : n' ≤ n) : ExcRel X cG n' h ρ e m sp := by
  obtain ⟨a, dx, vs, sl, es, k, e1, l1, l2, w1, w2, ne, g1, g2, fr, sz, tr⟩ := x
  exact ⟨a, dx, vs, sl, es, k, e1, Nat.le_trans l l1, Nat.le_trans l l2, w1, w2, ne, g1, g2, fr, sz, tr.imp id fun ⟨T, oT, ts, q1, q2, q3⟩ => ⟨T, oT, ts, q1, Nat.le_trans l q2, q3⟩⟩
theorem JE.bad {α β : Type} {t : Sem α} {Rel : Heap → Rho → β → α → Prop} : JE X cG fs A t Rel own ρ .bad s := trivial
theorem JE.bind {α β γ δ : Type} {t : Sem α} {f : α → Sem γ} {r : R β} {k : β → Hp → R δ} {Rel : Heap → Rho → β → α → Prop} {Rel' : Heap → Rho → δ → γ → Prop}
    (h1 : JE X cG fs A t Rel own ρ r s)
    (h2 : ∀ b H' a s' ρ', Ext ρ s.heap.objs.size ρ' → Inv X fs ρ' H' s' → Rel s'.heap ρ' b a → Step fs (fun a => own a ∨ Wr ρ a) s s' → JE X cG fs A (f a) Rel' own ρ' (k b H') s') :
    JE X cG fs A (t >>= f) Rel' own ρ (r.bind k) s := by
  induction r with
  | bad => trivial
  | exc m sp H' => exact wpAny_bind (wpAny_mono h1 (fun _ _ x => x.elim) fun _ _ x => x)
  | ok b H' =>
    show JE X cG fs A (t >>= f) Rel' own ρ (k b H') s
    cases q : k b H' with
    | bad => trivial
    | ok c H'' =>
      refine wpAny_bind (wpAny_mono h1 (fun a s' z => ?_) fun _ _ x => x.elim)
      obtain ⟨ρ', e, I, R, S⟩ := z
      have z := h2 b H' a s' ρ' e I R S
      rw [q] at z
      refine wpAny_mono z (fun c s'' y => ?_) fun _ _ x => x
      obtain ⟨ρ'', e', I', R', S'⟩ := y
      refine ⟨ρ'', e.trans e' S.size, I', R', S.trans S' fun a l w => ?_⟩
      rcases w with w | w
      · exact .inl w
      · exact .inr ((e.old l).mp w)
    | exc m sp H'' =>
      refine wpAny_bind (wpAny_mono h1 (fun a s' z => ?_) fun _ _ x => x.elim)
      obtain ⟨ρ', e, I, R, S⟩ := z
      have z := h2 b H' a s' ρ' e I R S
      rw [q] at z
      refine wpAny_mono z (fun _ _ x => x) fun c s'' y => ?_
      obtain ⟨ρ'', e', I', R', S'⟩ := y
      refine ⟨ρ'', e.trans e' S.size, I', R'.down S.size, S.trans S' fun a l w => ?_⟩
      rcases w with w | w
      · exact .inl w
      · exact .inr ((e.old l).mp w)
theorem JE.weaken {α β : Type} {t : Sem α} {r : R β} {Rel : Heap → Rho → β → α → Prop} (h : JE X cG fs A t Rel own ρ r s) (w : ∀ a, own a → own' a) : JE X cG fs A t Rel own' ρ r s := by
  induction r with
  | bad => trivial
  | ok b H' => exact wpAny_mono h (fun a s' ⟨ρ', e, I, R, S⟩ => ⟨ρ', e, I, R, S.mono fun a z => z.imp (w a) id⟩) fun _ _ x => x
  | exc m sp H' => exact wpAny_mono h (fun _ _ x => x) (fun a s' ⟨ρ', e, I, R, S⟩ => ⟨ρ', e, I, R, S.mono fun a z => z.imp (w a) id⟩)
theorem JE.rel {α β : Type} {t : Sem α} {r : R β} {Rel Rel' : Heap → Rho → β → α → Prop} (h : JE X cG fs A t Rel own ρ r s) (w : ∀ h ρ b a, Rel h ρ b a → Rel' h ρ b a) : JE X cG fs A t Rel' own ρ r s := by
  induction r with
  | bad => trivial
  | ok b H' => exact wpAny_mono h (fun a s' ⟨ρ', e, I, R, S⟩ => ⟨ρ', e, I, w _ _ _ _ R, S⟩) fun _ _ x => x
  | exc m sp H' => exact h
theorem JE.tree {α β : Type} {t t' : Sem α} {r : R β} {Rel : Heap → Rho → β → α → Prop} (h : JE X cG fs A t Rel own ρ r s)
    (w : ∀ (Q : α → Shared → Prop) (E : Value → Shared → Prop), wpAny X.M A t Q E s → wpAny X.M A t' Q E s) : JE X cG fs A t' Rel own ρ r s := by
  induction r with
  | bad => trivial
  | ok b H' => exact w _ _ h
  | exc m sp H' => exact w _ _ h
theorem JE.ok {α β : Type} {t : Sem α} {b : β} {H' : Hp} {Rel : Heap → Rho → β → α → Prop}
    (h : wpAny X.M A t (JOk X fs own ρ s Rel b H') (fun _ _ => False) s) : JE X cG fs A t Rel own ρ (.ok b H') s := h
theorem JE.pure {α β : Type} {a : α} {b : β} {H : Hp} {Rel : Heap → Rho → β → α → Prop} (I : Inv X fs ρ H s) (h : Rel s.heap ρ b a) : JE X cG fs A (pure a) Rel own ρ (.ok b H) s :=
  wpAny_pure ⟨ρ, Ext.refl _ _, I, h, Step.refl _ _ _⟩
theorem JE.guard {α β : Type} {t : Sem α} {c : Bool} {r : R β} {Rel : Heap → Rho → β → α → Prop} (h : c = true → JE X cG fs A t Rel own ρ r s) : JE X cG fs A t Rel own ρ (R.guard c r) s := by
  induction c with
  | true => exact h rfl
  | false => trivial
end
section
variable {X : Wd} {fs : List Env} {s s' : Shared} {ρ ρ' : Rho} {H : Hp} {W : Addr → Prop}
theorem VRel.step (S : StkOK X fs s.heap) (x : Step fs (Wr ρ) s s') (e : Ext ρ s.heap.objs.size ρ') : ∀ {d : V} {v : Value}, VRel X s.heap ρ d v → VRel X s'.heap ρ' d v
  | .d _, _, h => DRel.step S x e h
  | .loc _, _, ⟨p, h, q⟩ => ⟨p, e.get h, q⟩
theorem VRels.step (S : StkOK X fs s.heap) (x : Step fs (Wr ρ) s s') (e : Ext ρ s.heap.objs.size ρ') : ∀ {d : List V} {v : List Value}, VRels X s.heap ρ d v → VRels X s'.heap ρ' d v
  | [], _, h => h
  | _ :: _, _, ⟨w, r, h, a, b⟩ => ⟨w, r, h, VRel.step S x e a, VRels.step S x e b⟩
theorem FRels.step (S : StkOK X fs s.heap) (x : Step fs (Wr ρ) s s') (e : Ext ρ s.heap.objs.size ρ') : ∀ {d : List (Nat × D)} {v : List DictEntry}, FRels X s.heap ρ d v → FRels X s'.heap ρ' d v
  | [], _, h => h
  | _ :: _, _, ⟨w, r, t, h, a, b, c, d⟩ => ⟨w, r, t, h, a, b, DRel.step S x e c, FRels.step S x e d⟩
noncomputable def Wr0 : Addr → Prop := fun _ => False
theorem Step.of0 (x : Step fs Wr0 s s') : Step fs W s s' := x.mono fun _ h => h.elim
theorem Inv.alive (I : Inv X fs ρ H s) {a : Addr} (h : Wr ρ a) : a < s.heap.objs.size := by
  refine E1A2 (h) fun p hp q => ?_; try clear h
  refine E1A1 (List.mem_iff_getElem?.mp hp) fun i hi => ?_
  have hl : i < H.length := by rw [← I.rel.len]; exact (List.getElem?_eq_some_iff.mp hi).1
  have z := I.rel.obj i p H[i] hi (List.getElem?_eq_getElem hl)
  cases q2 : H[i] with
  | list l =>
    rw [q2] at z
    obtain ⟨e, its, n, g, _⟩ := z
    rcases q with rfl | rfl
    · exact Heap.lt_size g
    · rw [e]; exact Heap.lt_size g
  | inst l =>
    rw [q2] at z
    obtain ⟨g, es, n, g', _⟩ := z
    rcases q with rfl | rfl
    · exact Heap.lt_size g
    · exact Heap.lt_size g'
theorem Inv.notDict (I : Inv X fs ρ H s) {a : Addr} (h : Wr ρ a) : some a ∉ fs.map (·.frame) := by
  intro m
  refine E1A2 (List.mem_map.mp m) fun e he q => ?_
  exact I.off e he a q h
theorem Step.get0 (x : Step fs Wr0 s s') (I : Inv X fs ρ H s) {a : Addr} {o : Obj} (e : s.heap.get? a = some o) (h : Wr ρ a) : s'.heap.get? a = some o := by
  refine E1A2 (x.keep a o e id) fun sl e1 q => ?_
  rcases q with rfl | q
  · exact e1
  · exact absurd q (I.notDict h)
theorem Wr.of1 {i : Nat} {p : Addr × Addr} (h : ρ[i]? = some p) : Wr ρ p.1 := ⟨p, List.mem_of_getElem? h, .inl rfl⟩
theorem Wr.of2 {i : Nat} {p : Addr × Addr} (h : ρ[i]? = some p) : Wr ρ p.2 := ⟨p, List.mem_of_getElem? h, .inr rfl⟩
theorem ORel.step0 (I : Inv X fs ρ H s) (x : Step fs Wr0 s s') {i : Nat} {p : Addr × Addr} (hp : ρ[i]? = some p) : ∀ {o : O}, ORel X s.heap ρ p o → ORel X s'.heap ρ p o
  | .list l, ⟨e, its, n, g, r⟩ => ⟨e, its, n, x.get0 I g (Wr.of1 hp), DRels.step I.stk x.of0 (Ext.refl _ _) r⟩
  | .inst l, ⟨g, es, n, g', r⟩ => ⟨x.get0 I g (Wr.of1 hp), es, n, x.get0 I g' (Wr.of2 hp), FRels.step I.stk x.of0 (Ext.refl _ _) r⟩
theorem Inv.step0 (I : Inv X fs ρ H s) (x : Step fs Wr0 s s') : Inv X fs ρ H s' where
  rel := ⟨I.rel.len, fun i p o hp ho => ORel.step0 I x hp (I.rel.obj i p o hp ho), I.rel.apart, I.rel.above⟩
  base b o e := by
    refine E1A2 (x.keep b o (I.base b o e) id) fun sl e1 q => ?_
    rcases q with rfl | q
    · exact e1
    · exact absurd q (I.stk.low (Heap.lt_size e))
  stk := I.stk.step x
  off := I.off
  sz := Nat.le_trans I.sz x.size
theorem JE.of0 {cG : Addr} {own : Addr → Prop} {A : Around} {α β : Type} {t : Sem α} {b : β} {Rel : Heap → Rho → β → α → Prop} (I : Inv X fs ρ H s)
    (h : wpAny X.M A t (fun a s' => Step fs Wr0 s s' ∧ Rel s'.heap ρ b a) (fun _ _ => False) s) : JE X cG fs A t Rel own ρ (.ok b H) s :=
  wpAny_mono h (fun a s' ⟨x, r⟩ => ⟨ρ, Ext.refl _ _, I.step0 x, r, x.of0⟩) fun _ _ z => z
theorem Step.tok (fs : List Env) (W : Addr → Prop) (s : Shared) (k : Nat) : Step fs W s { s with toks := k } :=
  ⟨rfl, rfl, Nat.le_refl _, fun a o h _ => ⟨o.slots, h, .inl rfl⟩, fun a o es n h q => ⟨o, es, n, h, q⟩⟩
theorem Step.push (fs : List Env) (W : Addr → Prop) (s : Shared) (o : Obj) (k : Nat) : Step fs W s { s with heap := s.heap.push o, toks := k } :=
  ⟨rfl, rfl, by show _ ≤ (s.heap.push o).objs.size; rw [Heap.size_push]; exact Nat.le_succ _, fun a o' h _ => ⟨o'.slots, Heap.get?_push_of_some _ h, .inl rfl⟩, fun a o' es n h q => ⟨o', es, n, Heap.get?_push_of_some _ h, q⟩⟩
theorem Step.keeps (fs : List Env) (W : Addr → Prop) (s : Shared) {h : Heap} {k : Nat} (hk : ∀ a o, s.heap.get? a = some o → h.get? a = some o) (hs : s.heap.objs.size ≤ h.objs.size) : Step fs W s { s with heap := h, toks := k } :=
  ⟨rfl, rfl, hs, fun a o' e _ => ⟨o'.slots, hk _ _ e, .inl rfl⟩, fun a o' es n e q => ⟨o', es, n, hk _ _ e, q⟩⟩
theorem FrRel.step {env : Env} {ks : Ks} {loc : Loc} (F : FrRel X env ks loc ρ s.heap) (S : StkOK X fs s.heap) (x : Step fs (Wr ρ) s s') (e : Ext ρ s.heap.objs.size ρ') : FrRel X env ks loc ρ' s'.heap where
  ns := by
    refine E1A2 (F.ns) fun m hn hv => ?_
    have hlt := hn.lt
    refine E3A4 (hn) fun o es ep ho hd hk hf => ?_; try clear hn
    refine E1A4 (x.data ho F.off) fun o' g d _ _ => ?_
    exact ⟨m, ⟨o', es, ep, g, d.trans hd, hk, hf⟩, fun n v a b => let ⟨val, c, d⟩ := hv n v a b; ⟨val, c, VRel.step S x e d⟩⟩
  cel n hn := by
    refine E3A5 (F.cel n hn) fun c o cv a1 a2 a3 a4 a5 => ?_
    refine E1A4 (x.data a2 a4) fun o' g d _ _ => ?_
    exact ⟨c, o', cv, a1, g, d.trans a3, fun z => a4 ((e.old (Heap.lt_size a2)).mp z), fun v hv => let ⟨val, p, q⟩ := a5 v hv; ⟨val, p, VRel.step S x e q⟩⟩
  dom := F.dom
  off z := F.off ((e.old (by obtain ⟨m, hn, _⟩ := F.ns; exact hn.lt)).mp z)
end
end Mine
end
section
namespace Mine
open PySem PySem.Calls PyProof.Rows
structure At (X : Wd) (fs : List Env) (env : Env) (ks : Ks) (loc : Loc) (ρ : Rho) (H : Hp) (s : Shared) : Prop where
  inv : Inv X fs ρ H s
  fr : FrRel X env ks loc ρ s.heap
section
variable {X : Wd} {cG : Addr} {fs : List Env} {A : Around} {own : Addr → Prop} {s s' : Shared} {ρ ρ' : Rho} {env : Env} {ks : Ks} {loc : Loc} {H H' : Hp}
theorem Step.ofNo {W : Addr → Prop} (x : Step fs (fun a => noOwn a ∨ W a) s s') : Step fs W s s' := x.mono fun _ h => h.elim (fun z => z.elim) id
theorem At.next (a : At X fs env ks loc ρ H s) (e : Ext ρ s.heap.objs.size ρ') (I : Inv X fs ρ' H' s') (x : Step fs (fun a => noOwn a ∨ Wr ρ a) s s') : At X fs env ks loc ρ' H' s' :=
  ⟨I, a.fr.step a.inv.stk x.ofNo e⟩
theorem At.val (a : At X fs env ks loc ρ H s) (e : Ext ρ s.heap.objs.size ρ') (x : Step fs (fun a => noOwn a ∨ Wr ρ a) s s') {v : V} {w : Value} (h : VRel X s.heap ρ v w) : VRel X s'.heap ρ' v w :=
  VRel.step a.inv.stk x.ofNo e h
theorem At.vals (a : At X fs env ks loc ρ H s) (e : Ext ρ s.heap.objs.size ρ') (x : Step fs (fun a => noOwn a ∨ Wr ρ a) s s') {v : List V} {w : List Value} (h : VRels X s.heap ρ v w) : VRels X s'.heap ρ' v w :=
  VRels.step a.inv.stk x.ofNo e h
section
variable {α β : Type} {r : R β} {Rel : Heap → Rho → β → α → Prop}
theorem JE.holding {vs : List Value} {t : Sem α} (h : JE X cG fs A t Rel own ρ r s) : JE X cG fs A (holding vs t) Rel own ρ r s := h.tree fun _ _ z => wpAny_holding z
theorem JE.stand {p : Pos} {t : Unit → Sem α} (h : JE X cG fs A (t ()) Rel own ρ r s) : JE X cG fs A (standAt p >>= t) Rel own ρ r s := h.tree fun _ _ z => wpAny_bind (wpAny_standAt z)
theorem JE.point {t : Unit → Sem α} (h : JE X cG fs A (t ()) Rel own ρ r s) : JE X cG fs A (point >>= t) Rel own ρ r s := h.tree fun _ _ z => wpAny_bind (wpAny_point z)
theorem JE.rule {p : String} {t : Unit → Sem α} (h : JE X cG fs A (t ()) Rel own ρ r s) : JE X cG fs A (rule p >>= t) Rel own ρ r s := h.tree fun _ _ z => wpAny_bind (wpAny_rule z)
theorem JE.release {vs ks : List Value} {t : Unit → Sem α} (h : JE X cG fs A (t ()) Rel own ρ r s) : JE X cG fs A (release vs ks >>= t) Rel own ρ r s := h.tree fun _ _ z => wpAny_bind (wpAny_release z)
theorem JE.pureB {δ : Type} {a : δ} {t : δ → Sem α} (h : JE X cG fs A (t a) Rel own ρ r s) : JE X cG fs A ((Pure.pure a : Sem δ) >>= t) Rel own ρ r s := h.tree fun _ _ z => wpAny_bind (wpAny_pure z)
end
theorem JE.operate {vs : List Value} {t : Sem Value} {β : Type} {r : R β} {Rel : Heap → Rho → β → Value → Prop} (h : JE X cG fs A t Rel own ρ r s) : JE X cG fs A (operate vs t) Rel own ρ r s := h.tree fun _ _ z => wpAny_operate' z
theorem JE.id {α β : Type} {t : Sem α} {r : R β} {Rel : Heap → Rho → β → α → Prop} (h : JE X cG fs A (t >>= fun a => Pure.pure a) Rel own ρ r s) : JE X cG fs A t Rel own ρ r s := by
  refine h.tree fun Q E z Γ p hΓ => ?_
  have := z Γ p hΓ
  rw [Sem.wp_bind'] at this
  exact this
theorem JE.map {α β γ δ : Type} {t : Sem α} {f : α → γ} {r : R β} {g : β → δ} {Rel : Heap → Rho → β → α → Prop} {Rel' : Heap → Rho → δ → γ → Prop} (h : JE X cG fs A t Rel own ρ r s)
    (w : ∀ h ρ b a, Rel h ρ b a → Rel' h ρ (g b) (f a)) : JE X cG fs A (t >>= fun a => Pure.pure (f a)) Rel' own ρ (r.bind fun b H => .ok (g b) H) s :=
  JE.bind h fun b H' a s' ρ' e I R S => JE.pure I (w _ _ _ _ R)
end
section
variable (X : Wd) (cG : Addr) (T : Tab)
noncomputable def SndE (n : Nat) : Prop := ∀ (fs : List Env) (A : Around) (env : Env) (ks : Ks) (loc : Loc) (ρ : Rho) (H : Hp) (s : Shared) (m : Nat) (e : Expr), AOK n A fs → EnvOK X env ks → At X fs env ks loc ρ H s →
  JE X cG fs A (eval e env) (VRel X) noOwn ρ (evalE T n ks loc (erE X.f m e) H) s
noncomputable def BRel (_ : Heap) (_ : Rho) (b : Bool) (a : Bool) : Prop := a = b
noncomputable def SndT (n : Nat) : Prop := ∀ (fs : List Env) (A : Around) (env : Env) (ks : Ks) (loc : Loc) (ρ : Rho) (H : Hp) (s : Shared) (m : Nat) (e : Expr), AOK n A fs → EnvOK X env ks → At X fs env ks loc ρ H s →
  JE X cG fs A (isTrue e env (eval e env)) BRel noOwn ρ (testE T n ks loc (erE X.f m e) H) s
end
section
variable {X : Wd} {cG : Addr} {T : Tab} {fs : List Env} {A : Around} {s s' : Shared} {ρ ρ' : Rho} {env : Env} {ks : Ks} {loc : Loc} {H H' : Hp} {n m : Nat}
theorem VRel.bool {h : Heap} {b : Bool} {v : Value} (z : VRel X h ρ (.d (.bool b)) v) : v = .bool b := z
theorem VRel.int {h : Heap} {b : Int} {v : Value} (z : VRel X h ρ (.d (.int b)) v) : ∃ t, v = .int b t := z
theorem VRel.str {h : Heap} {b : Str} {v : Value} (z : VRel X h ρ (.d (.str b)) v) : ∃ t, v = .str b t := z
theorem VRel.none {h : Heap} {v : Value} (z : VRel X h ρ (.d .none) v) : v = .none := z
theorem VRel.gv {h : Heap} {g : Nat} {v : Value} (z : VRel X h ρ (.d (.gv g)) v) : v = X.gval g := z
theorem truthy_snd {own : Addr → Prop} (a : Inv X fs ρ H s) {v : V} {w : Value} (h : VRel X s.heap ρ v w) : JE X cG fs A (truthy w) BRel own ρ (boolV v H) s := by
  induction v with
  | loc => trivial
  | d x =>
    cases x with
    | bool b =>
      rw [VRel.bool h]
      exact JE.of0 a (wpAny_truthy_bool ⟨Step.refl _ _ _, rfl⟩)
    | _ => trivial
theorem starEach_cons {e : Expr} (h : isStar e = false) (r : List Expr) (env : Env) : starEach (e :: r) env = (false, eval e env) :: starEach r env := by
  cases e <;> first | rfl | cases h
theorem spliced_snd (hE : SndE X cG T n) (hA : AOK n A fs) (hV : EnvOK X env ks) (p : Pos) : ∀ (es : List Expr) {ρ : Rho} {H : Hp} {s : Shared}, es.any isStar = false → At X fs env ks loc ρ H s →
    JE X cG fs A (spliced (backTo p (starEach es env))) (VRels X) noOwn ρ (evalL (evalE T n ks loc) (es.map (erE X.f m)) H) s
  | [], ρ, H, s, _, a => JE.pure a.inv rfl
  | e :: r, ρ, H, s, hs, a => by
    rw [List.any_cons, Bool.or_eq_false_iff] at hs
    rw [starEach_cons hs.1]
    refine JE.bind (hE fs A env ks loc ρ H s m e hA hV a) fun v H' w s' ρ' x I R S => ?_
    have a' := a.next x I S
    refine JE.pureB (JE.bind (JE.holding (spliced_snd hE hA hV p r hs.2 a')) fun vs H'' ws s'' ρ'' x' I' R' S' => ?_)
    exact JE.pure I' ⟨w, ws, rfl, a'.val x' S' R, R'⟩
theorem allTrue_snd (hT : SndT X cG T n) (hA : AOK n A fs) (hV : EnvOK X env ks) (b : Bool) : ∀ (es : List Expr) {ρ : Rho} {H : Hp} {s : Shared}, At X fs env ks loc ρ H s →
    JE X cG fs A (allTrue (if b then .And else .Or) es env) BRel noOwn ρ (allT (testE T n ks loc) b (es.map (erE X.f m)) H) s
  | [], ρ, H, s, a => by cases b <;> exact JE.pure a.inv rfl
  | e :: r, ρ, H, s, a => by
    rw [arm_allTrue_cons]
    refine JE.bind (hT fs A env ks loc ρ H s m e hA hV a) fun v H' w s' ρ' x I R S => ?_
    have a' := a.next x I S
    have ih := allTrue_snd hT hA hV b r a'
    cases R
    cases b <;> cases v
    · exact ih
    · exact JE.pure I rfl
    · exact JE.pure I rfl
    · exact ih
set_option backward.match.sparseCases true in
theorem boolOp_snd (hE : SndE X cG T n) (hA : AOK n A fs) (hV : EnvOK X env ks) (p : Pos) (b : Bool) : ∀ (es : List Expr) {ρ : Rho} {H : Hp} {s : Shared}, At X fs env ks loc ρ H s →
    JE X cG fs A (boolOp p (if b then .And else .Or) (evalEach es env)) (VRel X) noOwn ρ (boolL (evalE T n ks loc) b (es.map (erE X.f m)) H) s
  | [], ρ, H, s, a => trivial
  | [e], ρ, H, s, a => hE fs A env ks loc ρ H s m e hA hV a
  | e :: e' :: r, ρ, H, s, a => by
    show JE X cG fs A (eval e env >>= fun v => standAt p >>= fun _ => holding [v] (truthy v) >>= fun t => match (if b then BoolOp.And else BoolOp.Or), t with
        | .And, false | .Or, true => Pure.pure v
        | _, _ => boolOp p (if b then .And else .Or) (evalEach (e' :: r) env)) _ _ _ _ _
    refine JE.bind (hE fs A env ks loc ρ H s m e hA hV a) fun v H' w s' ρ' x I R S => ?_
    have a' := a.next x I S
    refine JE.stand (JE.bind (JE.holding (truthy_snd I R)) fun c H'' t s'' ρ'' x' I' R' S' => ?_)
    have a'' := a'.next x' I' S'
    have ih := boolOp_snd hE hA hV p b (e' :: r) a''
    cases R'
    cases b <;> cases c
    · exact ih
    · exact JE.pure I' (a'.val x' S' R)
    · exact JE.pure I' (a'.val x' S' R)
    · exact ih
end
end Mine
end
section
namespace Mine
open PySem PySem.Calls PyProof.Rows
noncomputable def Solid (o : Obj) : Prop := (∃ its n, o = tupO its n) ∨ (∃ its n, o = lstO its n) ∨ (o.cls = .type "range" ∧ ∃ vs, o.data = .fields vs)
theorem Solid.flat {o : Obj} (h : Solid o) : (∀ es n, o.data ≠ .dict es n) ∧ ∀ v, o.data ≠ .cell v := by
  rcases h with ⟨_, _, rfl⟩ | ⟨_, _, rfl⟩ | ⟨_, vs, e⟩
  · exact ⟨(fun _ _ z => nomatch z), fun _ z => nomatch z⟩
  · exact ⟨(fun _ _ z => nomatch z), fun _ z => nomatch z⟩
  · rw [e]; exact ⟨(fun _ _ z => nomatch z), fun _ z => nomatch z⟩
section
variable {X : Wd}
mutual
theorem DRel.mono {h h' : Heap} {ρ ρ' : Rho} (k : ∀ a o, h.get? a = some o → ¬ Wr ρ a → Solid o → h'.get? a = some o ∧ ¬ Wr ρ' a) : ∀ {d : D} {v : Value}, DRel X h ρ d v → DRel X h' ρ' d v
  | .none, _, z => z
  | .bool _, _, z => z
  | .int _, _, z => z
  | .str _, _, z => z
  | .tup l, v, ⟨a, its, n, e, g, q, r⟩ => let ⟨g', q'⟩ := k _ _ g q (.inl ⟨_, _, rfl⟩); ⟨a, its, n, e, g', q', DRels.mono k r⟩
  | .list l, v, ⟨a, its, n, e, g, q, r⟩ => let ⟨g', q'⟩ := k _ _ g q (.inr (.inl ⟨_, _, rfl⟩)); ⟨a, its, n, e, g', q', DRels.mono k r⟩
  | .gv _, _, z => z
  | .rng _, v, ⟨a, t, u, w, e, g, q⟩ => let ⟨g', q'⟩ := k _ _ g q (.inr (.inr ⟨rfl, _, rfl⟩)); ⟨a, t, u, w, e, g', q'⟩
theorem DRels.mono {h h' : Heap} {ρ ρ' : Rho} (k : ∀ a o, h.get? a = some o → ¬ Wr ρ a → Solid o → h'.get? a = some o ∧ ¬ Wr ρ' a) : ∀ {d : List D} {v : List Value}, DRels X h ρ d v → DRels X h' ρ' d v
  | [], _, z => z
  | _ :: _, _, ⟨w, r, e, a, b⟩ => ⟨w, r, e, DRel.mono k a, DRels.mono k b⟩
end
variable {fs : List Env} {s : Shared} {ρ : Rho} {H : Hp}
theorem Inv.notBase (I : Inv X fs ρ H s) {a : Addr} (h : a < X.B.objs.size) : ¬ Wr ρ a := by
  rintro ⟨p, hp, q⟩
  have := I.rel.above p hp
  rcases q with rfl | rfl
  · exact absurd h (Nat.not_lt.mpr this.1)
  · exact absurd h (Nat.not_lt.mpr this.2)
theorem DRel.ofBase (I : Inv X fs ρ H s) {d : D} {v : Value} (h : DRel X X.B [] d v) : DRel X s.heap ρ d v :=
  h.mono fun a o g _ _ => ⟨I.base a o g, I.notBase (Heap.lt_size g)⟩
end
structure GlobOK (X : Wd) (T : Tab) : Prop where
  all : ∃ mg mb, X.B.Ns mainGlobals mg ∧ X.B.Ns builtinsNs mb ∧ ∀ n d, T.const n = some d →
    ∃ val, (mg (X.nm n) = some val ∨ (mg (X.nm n) = Option.none ∧ mb (X.nm n) = some val)) ∧ DRel X X.B [] d val
section
variable {X : Wd} {cG : Addr} {T : Tab} {fs : List Env} {A : Around} {s s' : Shared} {ρ ρ' : Rho} {env : Env} {ks : Ks} {loc : Loc} {H H' : Hp} {n m : Nat}
theorem wpAny_loadName_cell {M : Model} {E : Value → Shared → Prop} {name : Str} {c : Addr} {o : Obj} {v : Value} {Q : Value → Shared → Prop} (hk : env.scope.kind = .function) (hl : env.kindOf name = some .cell)
    (hc : env.cells.lookup name = some c) (ho : s.heap.get? c = some o) (hd : o.data = .cell (some v)) (h : Q v s) : wpAny M A (loadName env name) Q E s := by
  revert hk hl hc ho hd h; revert A s env M E name c o v Q
  refine @(eps10 (P := ?P) (dA, dS, dE, dM, dq, ds, dN, (default : PySem.Obj), dV, dq) rfl ((?m : Pi10 ?P) _ _ _ _ _ _ _ _ _ _))
  intro A s env M E name c o v Q hk hl hc ho hd h
  unfold loadName
  simp only [Env.blockKind, hk, hl, ScopeKind.isAnnotationScope, Bool.false_and, Bool.false_eq_true, if_false]
  unfold cellOf cellGet
  rw [hc]
  refine wpAny_bind (wpAny_pure ?_)
  refine wpAny_bind (wpAny_bind (wpAny_load ho ?_))
  rw [hd]
  exact wpAny_pure (wpAny_pure h)
theorem name_snd (N : NamesOK X) (G : GlobOK X T) (hV : EnvOK X env ks) (a : At X fs env ks loc ρ H s) {x : Str} {p : Pos} {n : Nat} (hx : X.f x = some n) :
    JE X cG fs A (eval (.Name x p) env) (VRel X) noOwn ρ (nmV T ks loc n H) s := by
  revert N G hV a hx; revert X cG T fs A s ρ env ks loc H x p n
  refine @(eps13 (P := ?P) (dX, dN, dT, dG, dA, dS, dR, dE, dK, dL, dH, ds, dp) rfl ((?m : Pi13 ?P) _ _ _ _ _ _ _ _ _ _ _ _ _))
  intro X cG T fs A s ρ env ks loc H x p n N G hV a hx
  have hd : (x == ("__debug__" : Str)) = false := by
    refine beq_eq_false_iff_ne.mpr fun e => ?_
    subst e
    have := N.dbg
    rw [hx] at this
    cases this
  have ex := N.inj x n hx
  show JE X cG fs A _ _ _ _ (match loc.lookup n with | some v => Mine.R.ok v H | Option.none => match ks.lookup n with | some .globalImplicit => (match T.const n with | some d => Mine.R.ok (.d d) H | Option.none => .bad) | _ => .bad) _
  cases hv : loc.lookup n with
  | some v =>
    dsimp only
    rcases (a.fr.dom n v hv).2 with hl | hc
    · refine E1A2 (a.fr.ns) fun mm hn hw => ?_
      refine E1A2 (hw n v hl hv) fun val hm R => ?_
      have hk : env.kindOf x = some .local := by rw [hV.kinds x n hx, hl]; rfl
      exact JE.of0 a.inv (wpAny_Name (wpAny_loadName_local hV.kind hk hn (ex ▸ hm) ⟨Step.refl _ _ _, R⟩) hd)
    · refine E3A5 (a.fr.cel n hc) fun c o cv e1 e2 e3 _ e5 => ?_
      refine E1A2 (e5 v hv) fun val hz1 R => ?_; subst hz1
      have hk : env.kindOf x = some .cell := by
        rw [hV.kinds x n hx]
        rcases hc with q | q <;> rw [q] <;> rfl
      exact JE.of0 a.inv (wpAny_Name (wpAny_loadName_cell hV.kind hk (ex ▸ e1) e2 e3 ⟨Step.refl _ _ _, R⟩) hd)
  | none =>
    dsimp only
    cases hg : ks.lookup n with
    | none => trivial
    | some kd =>
    cases kd with
    | globalImplicit =>
      dsimp only
      cases hc : T.const n with
      | none => trivial
      | some d =>
        refine E2A3 (G.all) fun mg mb hmg hmb hall => ?_
        refine E1A2 (hall n d hc) fun val hv R => ?_
        have hk : env.kindOf x = some .globalImplicit := by rw [hV.kinds x n hx, hg]; rfl
        refine JE.of0 a.inv (Name_function_global hV.kind hk ?_ hd)
        have k1 : s.heap.Ns env.globals mg := by rw [hV.glob]; exact hmg.keeps a.inv.base
        have k2 : s.heap.Ns env.builtins mb := by rw [hV.blt]; exact hmb.keeps a.inv.base
        rcases hv with hv | ⟨hv, hb⟩
        · exact loadGlobal_global k1 (ex ▸ hv) ⟨Step.refl _ _ _, R.ofBase a.inv⟩
        · exact loadGlobal_builtin k1 (ex ▸ hv) k2 (ex ▸ hb) ⟨Step.refl _ _ _, R.ofBase a.inv⟩
    | _ => trivial
theorem const_snd (a : Inv X fs ρ H s) (c : Const) (k : Nat) (p : Pos) (d : D) (h : (c = .none ∧ d = .none) ∨ (∃ b, c = .bool b ∧ d = .bool b) ∨ (∃ i, c = .int i ∧ d = .int i) ∨ (∃ x, c = .str x ∧ d = .str x)) :
    JE X cG fs A (eval (.Constant c k p) env) (VRel X) noOwn ρ (.ok (.d d) H) s := by
  rw [arm_eval_Constant]
  rcases h with ⟨rfl, rfl⟩ | ⟨b, rfl, rfl⟩ | ⟨b, rfl, rfl⟩ | ⟨b, rfl, rfl⟩
  · exact JE.pure a rfl
  · exact JE.pure a rfl
  · exact JE.of0 a (wpAny_mkInt ⟨Step.tok _ _ _ _, ⟨_, rfl⟩⟩)
  · exact JE.of0 a (show wpAny _ _ (mkText b) _ _ _ from fun _ _ _ => ⟨Step.tok _ _ _ _, ⟨_, rfl⟩⟩)
end
end Mine
end
section
namespace Mine
open PySem PySem.Calls PyProof.Rows
section
variable {X : Wd} {h : Heap} {ρ : Rho}
theorem DRels.length : ∀ {l : List D} {vs : List Value}, DRels X h ρ l vs → vs.length = l.length
  | [], _, e => by rw [show _ = [] from e]; rfl
  | _ :: _, _, ⟨w, r, e, _, b⟩ => by rw [e, List.length_cons, List.length_cons, DRels.length b]
theorem DRels.append : ∀ {l l' : List D} {vs vs' : List Value}, DRels X h ρ l vs → DRels X h ρ l' vs' → DRels X h ρ (l ++ l') (vs ++ vs')
  | [], _, _, _, e, z => by rw [show _ = [] from e]; exact z
  | _ :: _, _, _, _, ⟨w, r, e, a, b⟩, z => ⟨w, r ++ _, by rw [e]; rfl, a, DRels.append b z⟩
theorem DRels.get : ∀ {l : List D} {vs : List Value} {i : Nat} {d : D}, DRels X h ρ l vs → l[i]? = some d → ∃ v, vs[i]? = some v ∧ DRel X h ρ d v
  | [], _, _, _, _, q => by simp at q
  | _ :: _, _, 0, _, ⟨w, r, e, a, b⟩, q => ⟨w, by rw [e]; rfl, by cases q; exact a⟩
  | _ :: _, _, i + 1, _, ⟨w, r, e, a, b⟩, q => by
    refine E1A2 (DRels.get (i := i) b (by simpa using q)) fun v z y => ?_
    exact ⟨v, by rw [e]; simpa using z, y⟩
theorem DRels.drop : ∀ {l : List D} {vs : List Value} (i : Nat), DRels X h ρ l vs → DRels X h ρ (l.drop i) (vs.drop i)
  | [], _, _, e => by rw [show _ = [] from e]; simp [DRels]
  | _ :: _, _, 0, z => z
  | _ :: _, _, i + 1, ⟨w, r, e, a, b⟩ => by rw [e]; exact DRels.drop i b
theorem DRels.nil_iff {vs : List Value} : DRels X h ρ [] vs ↔ vs = [] := by simp [DRels]
theorem DRels.replicate {l : List D} {vs : List Value} (z : DRels X h ρ l vs) : ∀ n, DRels X h ρ (List.replicate n l).flatten (List.replicate n vs).flatten
  | 0 => rfl
  | n + 1 => by rw [List.replicate_succ, List.replicate_succ, List.flatten_cons, List.flatten_cons]; exact z.append (z.replicate n)
theorem DRels.set : ∀ {l : List D} {vs : List Value} {d : D} {v : Value} (i : Nat), DRels X h ρ l vs → DRel X h ρ d v → DRels X h ρ (l.set i d) (vs.set i v)
  | [], _, _, _, _, e, _ => by rw [show _ = [] from e]; simp [DRels]
  | _ :: _, _, _, _, 0, ⟨w, r, e, a, b⟩, z => by rw [e]; exact ⟨_, _, rfl, z, b⟩
  | _ :: _, _, _, _, i + 1, ⟨w, r, e, a, b⟩, z => by rw [e]; exact ⟨_, _, rfl, a, DRels.set i b z⟩
theorem DRels.strs {l : List D} : ∀ {vs : List Value} {ss : List Str}, DRels X h ρ l vs → strsOf l = some ss → ∃ ps : List (Str × Tok), vs = strValues ps ∧ ps.map (·.1) = ss := by
  induction l with
  | nil => intro vs ss e q; cases q; exact ⟨[], e, rfl⟩
  | cons d l ih =>
    intro vs ss z q
    cases d with
    | str x =>
      obtain ⟨w, r, e, ⟨t, a⟩, b⟩ := z
      refine E1A2 (Option.map_eq_some_iff.mp (show (strsOf l).map (x :: ·) = some ss from q)) fun ss' q1 e2 => ?_
      refine E1A2 (ih b q1) fun ps e1 e3 => ?_
      exact ⟨(x, t) :: ps, by rw [e, a, e1]; rfl, by rw [← e2, ← e3]; rfl⟩
    | _ => exact nomatch q
theorem int?_is {v : V} {x : Int} (q : int? v = some x) : v = .d (.int x) := by
  induction v with
  | d d => cases d <;> cases q <;> rfl
  | loc => exact nomatch q
theorem str?_is {v : V} {x : Str} (q : str? v = some x) : v = .d (.str x) := by
  induction v with
  | d d => cases d <;> cases q <;> rfl
  | loc => exact nomatch q
theorem tup?_is {v : V} {x : List D} (q : tup? v = some x) : v = .d (.tup x) := by
  induction v with
  | d d => cases d <;> cases q <;> rfl
  | loc => exact nomatch q
@[elab_as_elim] theorem VRel.intE {i : Int} {v : Value} {P : Value → Prop} (z : VRel X h ρ (.d (.int i)) v) (k : ∀ t, P (.int i t)) : P v := by
  refine E1A1 (VRel.int z) fun t e => ?_; rw [e]; exact k t
@[elab_as_elim] theorem VRel.strE {i : Str} {v : Value} {P : Value → Prop} (z : VRel X h ρ (.d (.str i)) v) (k : ∀ t, P (.str i t)) : P v := by
  refine E1A1 (VRel.str z) fun t e => ?_; rw [e]; exact k t
@[elab_as_elim] theorem VRel.intO {va : V} {i : Int} {v : Value} {P : Value → Prop} (z : VRel X h ρ va v) (q : int? va = some i) (k : ∀ t, P (.int i t)) : P v := by
  rw [int?_is q] at z; exact VRel.intE z k
@[elab_as_elim] theorem VRel.strO {va : V} {i : Str} {v : Value} {P : Value → Prop} (z : VRel X h ρ va v) (q : str? va = some i) (k : ∀ t, P (.str i t)) : P v := by
  rw [str?_is q] at z; exact VRel.strE z k
@[elab_as_elim] theorem VRel.tupE {l : List D} {v : Value} {P : Value → Prop} (z : VRel X h ρ (.d (.tup l)) v) (k : ∀ a its n, h.get? a = some (tupO its n) → ¬ Wr ρ a → DRels X h ρ l its.toList → P (.ref a)) : P v := by
  refine E3A4 (z) fun a its n e g q r => ?_; try clear z; rw [e]; exact k a its n g q r
@[elab_as_elim] theorem VRel.tupO {va : V} {l : List D} {v : Value} {P : Value → Prop} (z : VRel X h ρ va v) (q : tup? va = some l) (k : ∀ a its n, h.get? a = some (tupO its n) → ¬ Wr ρ a → DRels X h ρ l its.toList → P (.ref a)) : P v := by
  rw [tup?_is q] at z; exact VRel.tupE z k
end
section
variable {X : Wd} {cG : Addr} {fs : List Env} {A : Around} {own : Addr → Prop} {s : Shared} {ρ : Rho} {H : Hp}
theorem listOf_rel (I : Inv X fs ρ H s) {v : V} {w : Value} {l : List D} (h : VRel X s.heap ρ v w) (q : listOf H v = some l) :
    ∃ a its n, w = .ref a ∧ s.heap.get? a = some (lstO its n) ∧ DRels X s.heap ρ l its.toList := by
  revert I h q; revert X fs s ρ H v w l
  refine @(eps7 (P := ?P) (dX, dG, dS, dR, dH, dv, dV) rfl ((?m : Pi7 ?P) _ _ _ _ _ _ _))
  intro X fs s ρ H v w l I h q
  induction v with
  | d x =>
    cases x with
    | list l' =>
      cases q
      refine E3A4 (h) fun a its n e g _ r => ?_; try clear h
      exact ⟨a, its, n, e, g, r⟩
    | _ => exact nomatch q
  | loc i =>
    refine E1A2 (h) fun p hp e => ?_; try clear h
    have q : (match H[i]? with | some (.list l) => some l | _ => Option.none) = some l := q
    cases ho : H[i]? with
    | none => rw [ho] at q; exact nomatch q
    | some o =>
      rw [ho] at q
      induction o with
      | inst => exact nomatch q
      | list l' =>
        cases q
        obtain ⟨e2, its, n, g, r⟩ := I.rel.obj i p _ hp ho
        exact ⟨p.1, its, n, e, g, r⟩
@[elab_as_elim] theorem listOf_E {v : V} {w : Value} {l : List D} {P : Value → Prop} (I : Inv X fs ρ H s) (h : VRel X s.heap ρ v w) (q : listOf H v = some l)
    (k : ∀ a its n, s.heap.get? a = some (lstO its n) → DRels X s.heap ρ l its.toList → P (.ref a)) : P w := by
  refine E3A3 (listOf_rel I h q) fun a its n e g r => ?_
  rw [e]; exact k a its n g r
theorem JE.opt {α β γ : Type} {t : Sem α} {o : Option γ} {f : γ → R β} {Rel : Heap → Rho → β → α → Prop} (h : ∀ x, o = some x → JE X cG fs A t Rel own ρ (f x) s) : JE X cG fs A t Rel own ρ (R.opt o f) s := by
  induction o with
  | none => trivial
  | some x => exact h x rfl
theorem int2_snd {t : Value → Value → Sem Value} {va vb : V} {a b : Value} {f : Int → Int → R V} (ha : VRel X s.heap ρ va a) (hb : VRel X s.heap ρ vb b)
    (k : ∀ x y p q, JE X cG fs A (t (.int x p) (.int y q)) (VRel X) own ρ (f x y) s) : JE X cG fs A (t a b) (VRel X) own ρ (int2 va vb f) s :=
  JE.opt fun x e1 => JE.opt fun y e2 => VRel.intO ha e1 fun p => VRel.intO hb e2 fun q => k x y p q
theorem Inv.fresh (I : Inv X fs ρ H s) : ¬ Wr ρ s.heap.objs.size := fun z => absurd (I.alive z) (Nat.lt_irrefl _)
theorem newT (I : Inv X fs ρ H s) {l : List D} {vs : List Value} (r : DRels X s.heap ρ l vs) (k : Nat) :
    Step fs Wr0 s { s with heap := s.heap.push (tupO vs.toArray 0), toks := k } ∧ VRel X (s.heap.push (tupO vs.toArray 0)) ρ (.d (.tup l)) (.ref s.heap.objs.size) := by
  have S := Step.push fs Wr0 s (tupO vs.toArray 0) k
  exact ⟨S, _, vs.toArray, 0, rfl, Heap.get?_push_size _ rfl, I.fresh, DRels.step (s' := { s with heap := s.heap.push (tupO vs.toArray 0), toks := k }) I.stk S.of0 (Ext.refl _ _) (by simpa using r)⟩
theorem newLs (I : Inv X fs ρ H s) {l : List D} {vs : List Value} (r : DRels X s.heap ρ l vs) (k e : Nat) :
    Step fs Wr0 s { s with heap := s.heap.push (lstO vs.toArray e), toks := k } ∧ VRel X (s.heap.push (lstO vs.toArray e)) ρ (.d (.list l)) (.ref s.heap.objs.size) := by
  have S := Step.push fs Wr0 s (lstO vs.toArray e) k
  exact ⟨S, _, vs.toArray, e, rfl, Heap.get?_push_size _ rfl, I.fresh, DRels.step (s' := { s with heap := s.heap.push (lstO vs.toArray e), toks := k }) I.stk S.of0 (Ext.refl _ _) (by simpa using r)⟩
theorem line_is : sizeLine = line := by decide
theorem mulL_raw {prog : Program} {w : World} {E : Value → Shared → Prop} {l : Addr} {items : Array Value} {k : Nat} {x : Int} {u : Tok} {Q : Value → Shared → Prop}
    (hl : s.heap.get? l = some (lstO items k)) (hlo : -(2 ^ 63 : Int) ≤ x) (hhi : x < 2 ^ 63) (hsz : items.size * x.toNat ≤ 2 ^ 24)
    (h : Q (.ref s.heap.objs.size) { s with heap := s.heap.push (lstO (List.foldl (fun x1 x2 => x1 ++ x2) #[] (List.replicate (if items.isEmpty = true then 0 else x.toNat) items)) 0) }) :
    wpAny (model prog w) A (binaryOp .Mult (.ref l) (.int x u)) Q E s :=
  wpAny_binaryOp_repeat_ref (T := "list") (U := "int") (by decide) ⟨_, hl, rfl⟩ (fun s' => typeIs_int s' x u) noFill_list_mul F.fills_int_mul F.slot_int_rmul repeat_list F.slot_int_index.lookup
    (call_meets F.slot_int_rmul (typeIs_int s x u) F.entry_int_rmul (F.args_int_rmul_2 _ _) (int___rmul___int_list x u l items k)
      ⟨hl, rfl, ⟨_, hl, rfl⟩, call_meets F.slot_list_mul ⟨_, hl, rfl⟩ F.entry_list_mul (F.args_list_mul_2 _ _)
        (AutoListH.list___mul___list_int_3 l items k x u (by simp [Builtin.List.listFitsIndex]; lia) (by lia) (by simp [Builtin.List.listTooLong, sizeLine]; lia))
        ⟨hl, h⟩⟩)
end
end Mine
end
section
namespace Mine
open PySem PySem.Calls PyProof.Rows
section
variable {X : Wd} {cG : Addr} {fs : List Env} {A : Around} {own : Addr → Prop} {s : Shared} {ρ : Rho} {H : Hp}
theorem guardB {α β : Type} {t : Sem α} {c : Bool} {r : R β} {Rel : Heap → Rho → β → α → Prop} (h : c = true → JE X cG fs A t Rel own ρ r s) : JE X cG fs A t Rel own ρ (R.guard c r) s := JE.guard h
theorem foldl_rep (its : Array Value) (n : Nat) : (List.foldl (fun x1 x2 => x1 ++ x2) #[] (List.replicate n its)).toList = (List.replicate n its.toList).flatten := by
  have aux : ∀ (n : Nat) (acc : Array Value), (List.foldl (fun x1 x2 => x1 ++ x2) acc (List.replicate n its)).toList = acc.toList ++ (List.replicate n its.toList).flatten := by
    intro n
    induction n with
    | zero => intro acc; simp
    | succ n ih => intro acc; rw [List.replicate_succ, List.foldl_cons, ih, List.replicate_succ, List.flatten_cons]; simp
  simpa using aux n #[]
theorem add_tups (I : Inv X fs ρ H s) {x y : List D} {a' b' : Addr} {i1 i2 : Array Value} {n1 n2 : Nat} (g1 : s.heap.get? a' = some (tupO i1 n1)) (q1 : ¬ Wr ρ a') (r1 : DRels X s.heap ρ x i1.toList)
    (g2 : s.heap.get? b' = some (tupO i2 n2)) (q2 : ¬ Wr ρ b') (r2 : DRels X s.heap ρ y i2.toList) (hc : x.length + y.length ≤ line) :
    JE X cG fs A (binaryOp .Add (.ref a') (.ref b')) (VRel X) own ρ (.ok (.d (.tup (x ++ y))) H) s := by
  have e1 := r1.length
  have e2 := r2.length
  rw [Array.length_toList] at e1 e2
  by_cases z1 : i1.isEmpty = true
  · have hx : x = [] := List.length_eq_zero_iff.mp (e1.symm.trans (Array.size_eq_zero_iff.mpr (Array.isEmpty_iff.mp z1)))
    refine JE.of0 I (concat_meets ⟨_, g1, rfl⟩ ⟨_, g2, rfl⟩ noFill_tuple_add seq_tuple_add PySem.F.slot_tuple_add PySem.F.entry_tuple_add (PySem.F.args_tuple_add_2 _ _)
      (AutoSeq1.tuple___add___tuple_tuple_0 _ _ _ _ _ _ z1) ⟨g1, g2, Step.refl _ _ _, ?_⟩)
    rw [hx]
    exact ⟨_, _, _, rfl, g2, q2, r2⟩
  · by_cases z2 : i2.isEmpty = true
    · have hy : y = [] := List.length_eq_zero_iff.mp (e2.symm.trans (Array.size_eq_zero_iff.mpr (Array.isEmpty_iff.mp z2)))
      refine JE.of0 I (concat_meets ⟨_, g1, rfl⟩ ⟨_, g2, rfl⟩ noFill_tuple_add seq_tuple_add PySem.F.slot_tuple_add PySem.F.entry_tuple_add (PySem.F.args_tuple_add_2 _ _)
        (AutoSeq1.tuple___add___tuple_tuple_1 _ _ _ _ _ _ z1 z2) ⟨g1, g2, Step.refl _ _ _, ?_⟩)
      rw [hy, List.append_nil]
      exact ⟨_, _, _, rfl, g1, q1, r1⟩
    · refine JE.of0 I (P.add_tuple g1 g2 z1 z2 ?_ (by rw [line_is, e1, e2]; exact hc))
      have := newT (fs := fs) I (r1.append r2) s.toks
      rw [show (i1.toList ++ i2.toList).toArray = i1 ++ i2 by simp] at this
      exact this
theorem add_lists (I : Inv X fs ρ H s) {va vb : V} {a b : Value} (ha : VRel X s.heap ρ va a) (hb : VRel X s.heap ρ vb b) :
    JE X cG fs A (binaryOp .Add a b) (VRel X) own ρ (R.opt (listOf H va) fun x => R.opt (listOf H vb) fun y => R.guard (decide (x.length + y.length ≤ line)) (.ok (.d (.list (x ++ y))) H)) s := by
  refine JE.opt fun x hx => JE.opt fun y hy => JE.guard fun hc => listOf_E I ha hx fun a' i1 n1 g1 r1 => listOf_E I hb hy fun b' i2 n2 g2 r2 => ?_
  have hc := of_decide_eq_true hc
  rw [← r1.length, ← r2.length, Array.length_toList, Array.length_toList] at hc
  refine JE.of0 I (P.add_list g1 g2 ?_ (by rw [line_is]; exact hc))
  have := newLs (fs := fs) I (r1.append r2) s.toks 0
  rw [show (i1.toList ++ i2.toList).toArray = i1 ++ i2 by simp] at this
  exact this
theorem add_snd (I : Inv X fs ρ H s) {va vb : V} {a b : Value} (ha : VRel X s.heap ρ va a) (hb : VRel X s.heap ρ vb b) :
    JE X cG fs A (binaryOp .Add a b) (VRel X) own ρ (addV va vb H) s := by
  induction va with
  | loc => exact add_lists I ha hb
  | d x =>
    cases x with
    | int x => exact JE.opt fun y q => VRel.intE ha fun t => VRel.intO hb q fun u => JE.of0 I (add_int ⟨Step.tok _ _ _ _, _, rfl⟩)
    | str x =>
      exact JE.opt fun y q => VRel.strE ha fun t => VRel.strO hb q fun u => JE.guard fun hc => JE.of0 I (add_str (fun t' tk => ⟨Step.tok _ _ _ _, _, rfl⟩) (by rw [line_is]; exact of_decide_eq_true hc))
    | tup x =>
      exact JE.opt fun y q => VRel.tupE ha fun a' i1 n1 g1 q1 r1 => VRel.tupO hb q fun b' i2 n2 g2 q2 r2 => JE.guard fun hc => add_tups I g1 q1 r1 g2 q2 r2 (of_decide_eq_true hc)
    | list x => exact add_lists I ha hb
    | _ => trivial
theorem mul_lists (I : Inv X fs ρ H s) {va : V} {a : Value} {y : Int} {u : Tok} (ha : VRel X s.heap ρ va a) :
    JE X cG fs A (binaryOp .Mult a (.int y u)) (VRel X) own ρ (R.opt (listOf H va) fun x => R.guard (decide (0 ≤ y) && decide (y ≤ 16) && decide (x.length ≤ 16)) (.ok (.d (.list (List.replicate y.toNat x).flatten)) H)) s := by
  refine JE.opt fun x hx => JE.guard fun hc => listOf_E I ha hx fun a' i1 n1 g1 r1 => ?_
  simp only [Bool.and_eq_true, decide_eq_true_eq] at hc
  have e1 := r1.length
  rw [Array.length_toList] at e1
  have h16 : y.toNat ≤ 16 := Int.toNat_le.mpr hc.1.2
  refine JE.of0 I (mulL_raw g1 (Int.le_trans (by decide) hc.1.1) (Int.lt_of_le_of_lt hc.1.2 (by decide)) ?_ ?_)
  · rw [e1]
    exact Nat.le_trans (Nat.mul_le_mul hc.2 h16) (by decide)
  · by_cases z : i1.isEmpty = true
    · have hx : x = [] := List.length_eq_zero_iff.mp (e1.symm.trans (Array.size_eq_zero_iff.mpr (Array.isEmpty_iff.mp z)))
      subst hx
      rw [if_pos z]
      exact newLs (fs := fs) (vs := []) I (l := (List.replicate y.toNat []).flatten) (by rw [show (List.replicate y.toNat ([] : List D)).flatten = [] by simp]; rfl) s.toks 0
    · rw [if_neg z]
      have := newLs (fs := fs) I (r1.replicate y.toNat) s.toks 0
      rw [← foldl_rep] at this
      exact this
theorem small_bits {z : Int} (hz : smallI z = true) : Builtin.Int.intBits z ≤ 64 := by
  simp only [smallI, Bool.and_eq_true, decide_eq_true_eq] at hz
  exact intBits_le_64 (by lia) (by lia)
theorem mul_snd (I : Inv X fs ρ H s) {va : V} {a : Value} {y : Int} {u : Tok} (ha : VRel X s.heap ρ va a) :
    JE X cG fs A (binaryOp .Mult a (.int y u)) (VRel X) own ρ (mulV va y H) s := by
  induction va with
  | loc => exact mul_lists I ha
  | d x =>
    cases x with
    | int x =>
      exact VRel.intE ha fun t => JE.guard fun hc => JE.of0 I (mul_int ⟨Step.tok _ _ _ _, _, rfl⟩ (by
        rcases Bool.or_eq_true_iff.mp hc with q | q
        · exact IntMulOk.of_left (small_bits q)
        · exact IntMulOk.of_right (small_bits q)))
    | str x =>
      refine VRel.strE ha fun t => JE.guard fun hc => ?_
      simp only [Bool.and_eq_true, decide_eq_true_eq] at hc
      exact JE.of0 I (SB.mul (mulOk_of 16 16 hc.2 (by lia) (by lia) (by decide) (by decide)) fun t' tk => ⟨Step.tok _ _ _ _, _, rfl⟩)
    | list x => exact mul_lists I ha
    | _ => trivial
theorem bin_snd (I : Inv X fs ρ H s) (op : Operator) {va vb : V} {a b : Value} (ha : VRel X s.heap ρ va a) (hb : VRel X s.heap ρ vb b) :
    JE X cG fs A (binaryOp op a b) (VRel X) own ρ (binV op va vb H) s := by
  cases op with
  | Add => exact add_snd I ha hb
  | Sub => exact int2_snd (t := binaryOp .Sub) ha hb fun x y p q => JE.of0 I (sub_int ⟨Step.tok _ _ _ _, _, rfl⟩)
  | Mult => exact JE.opt fun y q => VRel.intO hb q fun u => mul_snd I ha
  | FloorDiv =>
    refine int2_snd (t := binaryOp .FloorDiv) ha hb fun x y p q => JE.guard fun hc => ?_
    simp only [fdivOk, Bool.and_eq_true, decide_eq_true_eq] at hc
    exact JE.of0 I (floordiv_int (by lia) ⟨Step.tok _ _ _ _, _, rfl⟩ (.inl (PyProof.noPylong_small (by lia))))
  | Mod =>
    refine int2_snd (t := binaryOp .Mod) ha hb fun x y p q => JE.guard fun hc => ?_
    simp only [divOk, Bool.and_eq_true, decide_eq_true_eq] at hc
    exact JE.of0 I (mod_int' (by lia) ⟨Step.tok _ _ _ _, _, rfl⟩)
  | Pow =>
    refine int2_snd (t := binaryOp .Pow) ha hb fun x y p q => JE.guard fun hc => ?_
    simp only [Bool.and_eq_true, decide_eq_true_eq] at hc
    refine E0A2 (hc) fun hz0 hz1 => ?_; subst hz0; subst hz1; try clear hc
    exact JE.of0 I (pow_int (by decide) (by decide +kernel) ⟨Step.tok _ _ _ _, s.toks, by simp⟩)
  | _ => trivial
end
end Mine
end
section
namespace Mine
open PySem PySem.Calls PyProof.Rows
section
variable {X : Wd} {cG : Addr} {fs : List Env} {A : Around} {own : Addr → Prop} {s : Shared} {ρ : Rho} {H : Hp}
theorem DRels.strsAre {h : Heap} {l : List D} : ∀ {vs : List Value} {ss : List Str}, DRels X h ρ l vs → strsOf l = some ss → StrsAre vs ss := by
  induction l with
  | nil => intro vs ss e q; cases q; rw [show _ = [] from e]; exact .nil
  | cons d l ih =>
    intro vs ss z q
    cases d with
    | str x =>
      obtain ⟨w, r, e, ⟨t, a⟩, b⟩ := z
      refine E1A2 (Option.map_eq_some_iff.mp (show (strsOf l).map (x :: ·) = some ss from q)) fun ss' q1 e2 => ?_
      rw [e, a, ← e2]
      exact .cons _ _ (ih b q1)
    | _ => exact nomatch q
noncomputable def VB (_ : Heap) (_ : Rho) (b : Bool) (v : Value) : Prop := v = .bool b
theorem empt_is : ∀ {x y : List D} {c : Bool}, empt x y = some c → (x.length = 0 ∨ y.length = 0) ∧ c = (x.length == y.length)
  | [], [], _, h => by cases h; exact ⟨.inl rfl, rfl⟩
  | [], _ :: _, _, h => by cases h; exact ⟨.inl rfl, rfl⟩
  | _ :: _, [], _, h => by cases h; exact ⟨.inr rfl, rfl⟩
theorem eq_snd {n : Nat} (hA : AOK n A fs) (I : Inv X fs ρ H s) {va vb : V} {a b : Value} {c : Bool} (ha : VRel X s.heap ρ va a) (hb : VRel X s.heap ρ vb b) (hc : eqV va vb H = some c) :
    JE X cG fs A (compareOp .Eq a b) VB own ρ (.ok c H) s := by
  induction va with
  | loc => exact nomatch hc
  | d x =>
    cases x with
    | int x =>
      refine E1A2 (Option.map_eq_some_iff.mp (show (int? vb).map _ = some c from hc)) fun y q e => ?_
      rw [← e]
      exact VRel.intE ha fun t => VRel.intO hb q fun u => JE.of0 I (eq_int ⟨Step.refl _ _ _, congrArg Value.bool (by first | rfl | (rw [Bool.eq_iff_iff]; simp))⟩)
    | str x =>
      refine E1A2 (Option.map_eq_some_iff.mp (show (str? vb).map _ = some c from hc)) fun y q e => ?_
      rw [← e]
      refine VRel.strE ha fun t => VRel.strO hb q fun u => JE.of0 I (P.eq_str ⟨Step.refl _ _ _, congrArg Value.bool ?_⟩)
      rw [Bool.eq_iff_iff, beq_iff_eq, decide_eq_true_iff]
      obtain ⟨⟨x⟩⟩ := x; obtain ⟨⟨y⟩⟩ := y
      simp
    | bool x =>
      induction vb with
      | loc => exact nomatch hc
      | d y =>
        cases y with
        | bool y =>
          cases hc
          rw [VRel.bool ha, VRel.bool hb]
          exact JE.of0 I (eq_bool ⟨Step.refl _ _ _, rfl⟩)
        | _ => exact nomatch hc
    | tup x =>
      refine E1A2 (Option.bind_eq_some_iff.mp (show (tup? vb).bind _ = some c from hc)) fun y q e => ?_
      refine E0A2 (empt_is e) fun z zc => ?_
      refine VRel.tupE ha fun a' i1 n1 g1 q1 r1 => VRel.tupO hb q fun b' i2 n2 g2 q2 r2 => ?_
      rw [← r1.length, ← r2.length, Array.length_toList, Array.length_toList] at z zc
      have m0 : min i1.size i2.size = 0 := by rcases z with q | q <;> rw [q]; exact Nat.zero_min _; exact Nat.min_zero _
      refine JE.of0 I (SeqAt.eq_tupleAt (e := fun _ => true) ⟨_, g1, rfl, _, rfl⟩ ⟨_, g2, rfl, _, rfl⟩ hA.croom (fun j h1 h2 => absurd (Nat.lt_min.mpr ⟨h1, h2⟩) (by rw [m0]; exact Nat.not_lt_zero _)) ⟨Step.refl _ _ _, ?_⟩)
      rw [zc, m0]
      rfl
    | list x =>
      induction vb with
      | loc => exact nomatch hc
      | d y =>
        cases y with
        | list y =>
          refine E0A2 (empt_is (show empt x y = some c from hc)) fun z zc => ?_
          refine E3A4 (ha) fun a' i1 n1 e g1 q1 r1 => ?_; try clear ha
          rw [e]
          refine E3A4 (hb) fun b' i2 n2 e g2 q2 r2 => ?_; try clear hb
          rw [e]
          rw [← r1.length, ← r2.length, Array.length_toList, Array.length_toList] at z zc
          have m0 : min i1.size i2.size = 0 := by rcases z with q | q <;> rw [q]; exact Nat.zero_min _; exact Nat.min_zero _
          by_cases q : i1.size = i2.size
          · refine JE.of0 I (SeqAt.eq_listAt (e := fun _ => true) ⟨_, g1, rfl, _, rfl⟩ ⟨_, g2, rfl, _, rfl⟩ q hA.croom (fun j h1 h2 => absurd (Nat.lt_min.mpr ⟨h1, h2⟩) (by rw [m0]; exact Nat.not_lt_zero _)) ⟨Step.refl _ _ _, ?_⟩)
            rw [zc, q]
            simp [VB]
          · refine JE.of0 I (SeqAt.eq_list_lengthsAt ⟨_, g1, rfl, _, rfl⟩ ⟨_, g2, rfl, _, rfl⟩ (by simpa using q) hA.croom ⟨Step.refl _ _ _, ?_⟩)
            rw [zc]
            simp [VB, q]
        | _ => exact nomatch hc
    | _ => exact nomatch hc
theorem not_of {t : Sem Bool} {c : Bool} (h : wpAny X.M A t (fun b s' => Step fs Wr0 s s' ∧ b = c) (fun _ _ => False) s) :
    wpAny X.M A (do return Value.bool (← t)) (fun a s' => Step fs Wr0 s s' ∧ VB s'.heap ρ c a) (fun _ _ => False) s ∧ wpAny X.M A (do return Value.bool (!(← t))) (fun a s' => Step fs Wr0 s s' ∧ VB s'.heap ρ (!c) a) (fun _ _ => False) s :=
  ⟨wpAny_bind (wpAny_mono h (fun b s' ⟨x, e⟩ => wpAny_pure ⟨x, by rw [e]; rfl⟩) fun _ _ z => z), wpAny_bind (wpAny_mono h (fun b s' ⟨x, e⟩ => wpAny_pure ⟨x, by rw [e]; rfl⟩) fun _ _ z => z)⟩
theorem in_snd (I : Inv X fs ρ H s) {va vb : V} {a b : Value} {c : Bool} (ha : VRel X s.heap ρ va a) (hb : VRel X s.heap ρ vb b) (hc : inV va vb = some c) :
    wpAny X.M A (compareOp .In a b) (fun v s' => Step fs Wr0 s s' ∧ VB s'.heap ρ c v) (fun _ _ => False) s ∧ wpAny X.M A (compareOp .NotIn a b) (fun v s' => Step fs Wr0 s s' ∧ VB s'.heap ρ (!c) v) (fun _ _ => False) s := by
  revert I ha hb hc; revert X fs A s ρ H va vb a b c
  refine @(eps10 (P := ?P) (dX, dG, dA, dS, dR, dH, dv, dv, dV, dV) rfl ((?m : Pi10 ?P) _ _ _ _ _ _ _ _ _ _))
  intro X fs A s ρ H va vb a b c I ha hb hc
  refine E1A2 (Option.bind_eq_some_iff.mp hc) fun x q1 hc => ?_
  refine VRel.strO ha q1 fun t => ?_
  induction vb with
  | loc => exact nomatch hc
  | d y =>
    cases y with
    | tup y =>
      refine VRel.tupE hb fun b' i2 n2 g2 q2 r2 => ?_
      refine E1A2 (Option.map_eq_some_iff.mp (show (strsOf y).map _ = some c from hc)) fun ss q e => ?_
      rw [← e]
      exact ⟨in_tuple_strs ⟨_, g2, rfl, _, rfl⟩ (r2.strsAre q) ⟨Step.refl _ _ _, rfl⟩, notin_tuple_strs ⟨_, g2, rfl, _, rfl⟩ (r2.strsAre q) ⟨Step.refl _ _ _, rfl⟩⟩
    | list y =>
      refine E3A4 (hb) fun b' i2 n2 e g2 q2 r2 => ?_; try clear hb
      rw [e]
      refine E1A2 (Option.map_eq_some_iff.mp (show (strsOf y).map _ = some c from hc)) fun ss q e => ?_
      rw [← e]
      exact ⟨in_list_strs (vs := i2.toList) ⟨_, g2, rfl, n2, by simp⟩ (r2.strsAre q) ⟨Step.refl _ _ _, rfl⟩, notin_list_strs (vs := i2.toList) ⟨_, g2, rfl, n2, by simp⟩ (r2.strsAre q) ⟨Step.refl _ _ _, rfl⟩⟩
    | str y =>
      refine VRel.strE hb fun u => ?_
      refine E1A2 (Option.map_eq_some_iff.mp (show (one? x.cps.toList).map _ = some c from hc)) fun k q e => ?_
      rw [← e]
      have hk : x.cps.toList = [k] := by
        match x.cps.toList, q with
        | [k'], q => cases q; rfl
      have ex : x = ⟨#[k]⟩ := by obtain ⟨⟨x⟩⟩ := x; simp only at hk; rw [hk]
      rw [ex]
      have z : (!(Builtin.Str.occurrences y ⟨#[k]⟩ 0 y.length 1).isEmpty) = y.cps.toList.contains k := by
        rw [StrLaws.found_one, List.contains_eq_mem]
      exact ⟨in_str ⟨Step.refl _ _ _, by rw [z]; rfl⟩, P.notIn_str ⟨Step.refl _ _ _, by rw [z]; rfl⟩⟩
    | _ => exact nomatch hc
theorem none_snd {va vb : V} {a b : Value} {c : Bool} (ha : VRel X s.heap ρ va a) (hb : VRel X s.heap ρ vb b) (hc : isNoneV va vb = some c) : b = .none ∧ (a == Value.none) = c := by
  refine E1A2 (Option.bind_eq_some_iff.mp hc) fun _ q hc => ?_
  have q : vb = .d .none := by
    induction vb with
    | d d => cases d <;> cases q <;> rfl
    | loc => exact nomatch q
  rw [q] at hb
  refine ⟨VRel.none hb, ?_⟩
  induction va with
  | loc => exact nomatch hc
  | d x =>
    cases x with
    | none => cases hc; rw [VRel.none ha]; rfl
    | int => cases hc; exact VRel.intE ha fun t => rfl
    | str => cases hc; exact VRel.strE ha fun t => rfl
    | _ => exact nomatch hc
theorem ic_snd {t : Value → Value → Sem Value} {f : Int → Int → Bool} {va vb : V} {a b : Value} {c : Bool} (ha : VRel X s.heap ρ va a) (hb : VRel X s.heap ρ vb b) (hc : intCmp f va vb = some c)
    (k : ∀ x y p q, JE X cG fs A (t (.int x p) (.int y q)) VB own ρ (.ok (f x y) H) s) : JE X cG fs A (t a b) VB own ρ (.ok c H) s := by
  refine E1A2 (Option.bind_eq_some_iff.mp hc) fun x q1 hc => ?_
  refine E1A2 (Option.map_eq_some_iff.mp hc) fun y q2 e => ?_
  rw [← e]
  exact VRel.intO ha q1 fun p => VRel.intO hb q2 fun q => k x y p q
theorem cmp_snd {n : Nat} (hA : AOK n A fs) (I : Inv X fs ρ H s) (op : CmpOp) {va vb : V} {a b : Value} (ha : VRel X s.heap ρ va a) (hb : VRel X s.heap ρ vb b) :
    JE X cG fs A (compareOp op a b) VB own ρ (optR (cmpV op va vb H) H) s := by
  revert hA I ha hb; revert X cG fs A own s ρ H n op va vb a b
  refine @(eps13 (P := ?P) (dX, dN, dG, dA, (default : PySem.Addr → Prop), dS, dR, dH, dN, (default : PySem.CmpOp), dv, dv, dV) rfl ((?m : Pi13 ?P) _ _ _ _ _ _ _ _ _ _ _ _ _))
  intro X cG fs A own s ρ H n op va vb a b hA I ha hb
  cases hc : cmpV op va vb H with
  | none => trivial
  | some c =>
    show JE X cG fs A (compareOp op a b) VB own ρ (.ok c H) s
    cases op with
    | Eq => exact eq_snd hA I ha hb hc
    | NotEq =>
      refine E1A2 (Option.bind_eq_some_iff.mp (show (str? va).bind _ = some c from hc)) fun x q1 hc => ?_
      refine E1A2 (Option.map_eq_some_iff.mp hc) fun y q2 e => ?_
      rw [← e]
      refine VRel.strO ha q1 fun t => VRel.strO hb q2 fun u => JE.of0 I (P.ne_str ⟨Step.refl _ _ _, congrArg Value.bool ?_⟩)
      obtain ⟨⟨x⟩⟩ := x; obtain ⟨⟨y⟩⟩ := y
      simp only [bne]
      congr 1
      rw [Bool.eq_iff_iff]; simp
    | Lt => exact ic_snd (t := compareOp .Lt) ha hb hc fun x y p q => JE.of0 I (lt_int ⟨Step.refl _ _ _, rfl⟩)
    | LtE => exact ic_snd (t := compareOp .LtE) ha hb hc fun x y p q => JE.of0 I (P.le_int ⟨Step.refl _ _ _, rfl⟩)
    | Gt => exact ic_snd (t := compareOp .Gt) ha hb hc fun x y p q => JE.of0 I (gt_int ⟨Step.refl _ _ _, rfl⟩)
    | GtE => exact ic_snd (t := compareOp .GtE) ha hb hc fun x y p q => JE.of0 I (P.ge_int ⟨Step.refl _ _ _, rfl⟩)
    | Is =>
      refine E0A2 (none_snd ha hb hc) fun e1 e => ?_
      rw [e1]
      exact JE.of0 I (is_none_gen ⟨Step.refl _ _ _, by rw [e]; rfl⟩)
    | IsNot =>
      refine E1A2 (Option.map_eq_some_iff.mp (show (isNoneV va vb).map _ = some c from hc)) fun c' hc' e2 => ?_
      refine E0A2 (none_snd ha hb hc') fun e1 e => ?_
      rw [e1, ← e2]
      exact JE.of0 I (isnot_none_gen ⟨Step.refl _ _ _, by rw [e]; rfl⟩)
    | In => exact JE.of0 I (in_snd I ha hb hc).1
    | NotIn =>
      refine E1A2 (Option.map_eq_some_iff.mp (show (inV va vb).map _ = some c from hc)) fun c' hc' e2 => ?_
      rw [← e2]
      exact JE.of0 I (in_snd I ha hb hc').2
end
end Mine
end
section
namespace Mine
open PySem PySem.Calls PyProof.Rows
section
variable {X : Wd} {cG : Addr} {fs : List Env} {A : Around} {own : Addr → Prop} {s : Shared} {ρ : Rho} {H : Hp}
theorem seqIndex_nat {k : Int} {n : Nat} (h0 : 0 ≤ k) (h : k.toNat < n) : seqIndex? k n = some k.toNat := by
  unfold seqIndex?
  have hk : ¬ k < 0 := Int.not_lt.mpr h0
  simp only [if_neg hk]
  rw [if_pos]
  simp only [Bool.and_eq_true, decide_eq_true_eq]
  lia
theorem idx_snd (I : Inv X fs ρ H s) (value slice : Expr) (hs : ∀ o i, subscripted slice false o i = operate [o, i] (getItem o i)) {vo vi : V} {o i : Value} (ho : VRel X s.heap ρ vo o) (hi : VRel X s.heap ρ vi i) :
    JE X cG fs A (subscriptTail value slice o i) (VRel X) own ρ (idxV vo vi H) s := by
  refine JE.opt fun k q => VRel.intO hi q fun u => JE.guard fun hk => ?_
  simp only [Bool.and_eq_true, decide_eq_true_eq] at hk
  have lst : JE X cG fs A (subscriptTail value slice o (.int k u)) (VRel X) own ρ (R.opt (listOf H vo) fun l => R.opt l[k.toNat]? fun x => .ok (.d x) H) s := by
    refine JE.opt fun l hl => JE.opt fun x hx => listOf_E I ho hl fun a its n g r => ?_
    refine E1A2 (r.get hx) fun v hv R => ?_
    rw [Array.getElem?_toList] at hv
    exact JE.of0 I (tail_any ⟨_, g, rfl⟩ PySem.F.slot_list_getitem.lookup (wpAny_getItem_list ⟨_, g, rfl, _, rfl⟩ (by lia) (by lia) hv ⟨Step.refl _ _ _, R⟩) (hs _ _))
  induction vo with
  | loc => exact lst
  | d x =>
    cases x with
    | tup l =>
      refine JE.opt fun x hx => VRel.tupE ho fun a its n g q r => ?_
      refine E1A2 (r.get hx) fun v hv R => ?_
      rw [Array.getElem?_toList] at hv
      exact JE.of0 I (tail_any ⟨_, g, rfl⟩ PySem.F.slot_tuple_getitem.lookup (P.getItem_tuple g (by lia) (by lia) (seqIndex_nat hk.1 (Array.getElem?_eq_some_iff.mp hv).1) hv ⟨Step.refl _ _ _, R⟩) (hs _ _))
    | str x =>
      refine JE.opt fun c hc => VRel.strE ho fun t => ?_
      rw [Array.getElem?_toList] at hc
      have hlt : k.toNat < x.length := (Array.getElem?_eq_some_iff.mp hc).1
      refine JE.of0 I (tail_any (typeIs_str _ _ _) PySem.F.slot_str_getitem.lookup (P.getItem_str ?_ ?_ ⟨Step.tok _ _ _ _, _, rfl⟩) (hs _ _))
      · rw [Bool.or_eq_false_iff]; exact ⟨decide_eq_false (by lia), decide_eq_false (by lia)⟩
      · rw [seqIndex_nat hk.1 hlt]; exact hc
    | list l => exact lst
    | _ => trivial
noncomputable def SlRel (X : Wd) (h : Heap) (ρ : Rho) (v : V) (w : Value) : Prop := ∃ sl lw, w = .ref sl ∧ h.IsSliceOf sl lw .none .none ∧ VRel X h ρ v lw
theorem sl_snd (I : Inv X fs ρ H s) (value : Expr) {lo : Expr} {p : Pos} {vo vi : V} {o i : Value} (ho : VRel X s.heap ρ vo o) (hi : SlRel X s.heap ρ vi i) :
    JE X cG fs A (subscriptTail value (.Slice (some lo) Option.none Option.none p) o i) (VRel X) own ρ (slV vo vi H) s := by
  refine JE.opt fun l q1 => JE.opt fun k q2 => JE.guard fun hk => ?_
  refine E2A3 (hi) fun sl lw e hsl hl => ?_; try clear hi
  rw [e]
  rw [int?_is q2] at hl
  refine E1A1 (VRel.int hl) fun u e => ?_
  rw [e] at hsl
  refine VRel.tupO ho q1 fun a its n g q r => ?_
  simp only [Bool.and_eq_true, decide_eq_true_eq] at hk
  have e := r.length
  rw [Array.length_toList] at e
  obtain ⟨kn, rfl⟩ : ∃ kn : Nat, k = (kn : Int) := ⟨k.toNat, by lia⟩
  refine JE.of0 I (tail_any ⟨_, g, rfl⟩ PySem.F.slot_tuple_getitem.lookup (getItem_tuple_from ⟨_, g, rfl, _, rfl⟩ hsl (by lia) (by lia) ?_ (by rw [line_is]; unfold line; lia)) rfl)
  exact newT (fs := fs) I (r.drop kn) s.toks
end
section
variable {X : Wd} {cG : Addr} {T : Tab} {fs : List Env} {A : Around} {s s' : Shared} {ρ ρ' : Rho} {env : Env} {ks : Ks} {loc : Loc} {H H' : Hp} {n m : Nat}
theorem slice_snd (hE : SndE X cG T n) (hA : AOK n A fs) (hV : EnvOK X env ks) (a : At X fs env ks loc ρ H s) (lo : Expr) (p : Pos) :
    JE X cG fs A (eval (.Slice (some lo) Option.none Option.none p) env) (SlRel X) noOwn ρ (evalE T n ks loc (erE X.f m lo) H) s := by
  have : JE X cG fs A (eval lo env >>= fun l => holding [l] (pure Value.none) >>= fun u => holding [l, u] (pure Value.none) >>= fun st => newFields "slice" [l, u, st]) (SlRel X) noOwn ρ
      ((evalE T n ks loc (erE X.f m lo) H).bind fun v H => .ok v H) s := by
    refine JE.bind (hE fs A env ks loc ρ H s m lo hA hV a) fun v H' w s' ρ' x I R S => ?_
    refine JE.of0 I (wpAny_bind (wpAny_holding (wpAny_pure (wpAny_bind (wpAny_holding (wpAny_pure ?_))))))
    unfold newFields
    refine wpAny_newObj_type ⟨Step.push _ _ _ _ _, _, w, rfl, ⟨_, Heap.get?_push_size _ rfl, rfl, rfl⟩, ?_⟩
    exact VRel.step (s' := { s' with heap := s'.heap.push _ }) I.stk (Step.push _ _ _ _ _) (Ext.refl _ _) R
  have e : ((evalE T n ks loc (erE X.f m lo) H).bind fun v H => .ok v H) = evalE T n ks loc (erE X.f m lo) H := by cases evalE T n ks loc (erE X.f m lo) H <;> rfl
  rw [e] at this
  exact this
end
end Mine
end
section
namespace Mine
open PySem PySem.Calls PyProof.Rows
structure GvOK (X : Wd) : Prop where
  g0 : X.gval 0 = .builtin "len"
  g1 : X.gval 1 = .builtin "min"
  g2 : X.gval 2 = .builtin "max"
  g3 : X.gval 3 = .type "int"
  g4 : X.gval 4 = .type "tuple"
  g5 : X.gval 5 = .type "list"
  g6 : X.gval 6 = .builtin "repr"
  g7 : X.gval 7 = .type "str"
  g8 : X.gval 8 = .type "range"
section
variable {X : Wd} {cG : Addr} {fs : List Env} {A : Around} {own : Addr → Prop} {s : Shared} {ρ : Rho} {H : Hp}
theorem Inv.there (I : Inv X fs ρ H s) {a : Addr} (h : Wr ρ a) : ∃ o, s.heap.get? a = some o := by
  refine E1A2 (h) fun p hp q => ?_; try clear h
  refine E1A1 (List.mem_iff_getElem?.mp hp) fun i hi => ?_
  have hl : i < H.length := by rw [← I.rel.len]; exact (List.getElem?_eq_some_iff.mp hi).1
  have z := I.rel.obj i p H[i] hi (List.getElem?_eq_getElem hl)
  cases q2 : H[i] with
  | list l =>
    rw [q2] at z
    obtain ⟨e, its, n, g, _⟩ := z
    rcases q with rfl | rfl
    · exact ⟨_, g⟩
    · rw [e]; exact ⟨_, g⟩
  | inst l =>
    rw [q2] at z
    obtain ⟨g, es, n, g', _⟩ := z
    rcases q with rfl | rfl
    · exact ⟨_, g⟩
    · exact ⟨_, g'⟩
theorem sized {M : Model} {α : Type} {t : Sem α} {Q : α → Shared → Prop} {E : Value → Shared → Prop} (h : wpAny M A t (fun a s' => s.heap.objs.size ≤ s'.heap.objs.size → Q a s') E s) : wpAny M A t Q E s :=
  wpAny_mono (wpAny_size h) (fun a s' ⟨x, l⟩ => x l) fun a s' x => x.1
noncomputable def reprSnd (X : Wd) (cG : Addr) : Prop := ∀ (fs : List Env) (A : Around) (own : Addr → Prop) (s : Shared) (ρ : Rho) (H : Hp) (n : Nat) (d : D) (v : Value), AOK n A fs → Inv X fs ρ H s → DRel X s.heap ρ d v → reprOk d = true → (reprD d).length ≤ line → (toPy d).depth ≤ 500 →
  JE X cG fs A (call (.builtin "repr") [v]) (VRel X) own ρ (retS (reprD d) H) s
theorem VRels.one {h : Heap} {v : V} {ws : List Value} (z : VRels X h ρ [v] ws) : ∃ w, ws = [w] ∧ VRel X h ρ v w := by
  refine E2A3 (z) fun w r e a b => ?_; try clear z
  exact ⟨w, by rw [e, show r = [] from b], a⟩
theorem VRels.two {h : Heap} {v v' : V} {ws : List Value} (z : VRels X h ρ [v, v'] ws) : ∃ w w', ws = [w, w'] ∧ VRel X h ρ v w ∧ VRel X h ρ v' w' := by
  refine E2A3 (z) fun w r e a b => ?_; try clear z
  refine E1A2 (b.one) fun w' e' b => ?_
  exact ⟨w, w', by rw [e, e'], a, b⟩
theorem call_range_raw {prog : Program} {w : World} {E : Value → Shared → Prop} {n : Int} {t : Tok} {Q : Value → Shared → Prop}
    (h : Q (.ref s.heap.objs.size) { s with heap := s.heap.push { cls := .type "range", data := .fields #[.int 0 s.toks, .int n t, .int 1 (s.toks + 1)] }, toks := s.toks + 1 + 1 }) : wpAny (model prog w) A (call (.type "range") [.int n t]) Q E s :=
  call_range_1 h
theorem len_snd (I : Inv X fs ρ H s) {v : V} {w : Value} (h : VRel X s.heap ρ v w) : JE X cG fs A (call (.builtin "len") [w] []) (VRel X) own ρ (lenV v H) s := by
  have lst : JE X cG fs A (call (.builtin "len") [w] []) (VRel X) own ρ (R.opt (listOf H v) fun l => R.guard (decide (l.length ≤ line)) (retI l.length H)) s := by
    refine JE.opt fun l hl => listOf_E I h hl fun a its k g r => ?_
    rw [← r.length, Array.length_toList]
    exact JE.guard fun hz => JE.of0 I (call_len_list ⟨_, g, rfl, _, rfl⟩ (by have := of_decide_eq_true hz; unfold line at this; lia) ⟨Step.tok _ _ _ _, _, rfl⟩)
  induction v with
  | loc => exact lst
  | d x =>
    cases x with
    | str x => exact VRel.strE h fun t => JE.guard fun hz => JE.of0 I (P.len_str (by have := of_decide_eq_true hz; unfold line at this; lia) ⟨Step.tok _ _ _ _, _, rfl⟩)
    | tup x =>
      refine VRel.tupE h fun a its k g q r => ?_
      show JE X cG fs A _ (VRel X) own ρ (R.guard (decide (x.length ≤ line)) (retI x.length H)) s
      rw [← r.length, Array.length_toList]
      exact JE.guard fun hz => JE.of0 I (P.len_tuple g (by have := of_decide_eq_true hz; unfold line at this; lia) ⟨Step.tok _ _ _ _, _, rfl⟩)
    | list x => exact lst
    | _ => trivial
theorem intV_snd (I : Inv X fs ρ H s) {v : V} {w : Value} (h : VRel X s.heap ρ v w) : JE X cG fs A (call (.type "int") [w] []) (VRel X) own ρ (intV v H) s := by
  induction v with
  | loc => trivial
  | d x =>
    cases x with
    | int x => exact VRel.intE h fun t => JE.of0 I (call_int_int ⟨Step.refl _ _ _, _, rfl⟩)
    | bool x => rw [VRel.bool h]; exact JE.of0 I (call_int_bool ⟨Step.tok _ _ _ _, _, rfl⟩)
    | str x => exact VRel.strE h fun t => JE.opt fun k hk => JE.guard fun hl => JE.of0 I (W.KIN.call_text hk (of_decide_eq_true hl) ⟨Step.tok _ _ _ _, _, rfl⟩)
    | _ => trivial
theorem fits16 {n : Nat} (h : n ≤ 16384) : n ≤ 16777216 := Nat.le_trans h (by decide)
theorem tupV_snd (I : Inv X fs ρ H s) {v : V} {w : Value} (h : VRel X s.heap ρ v w) : JE X cG fs A (call (.type "tuple") [w] []) (VRel X) own ρ (tupV v H) s := by
  have lst : JE X cG fs A (call (.type "tuple") [w] []) (VRel X) own ρ (R.opt (listOf H v) fun l => R.guard (decide (l.length ≤ 16384)) (.ok (.d (.tup l)) H)) s := by
    refine JE.opt fun l hl => listOf_E I h hl fun a its k g r => JE.guard fun hz => ?_
    have hz' := of_decide_eq_true hz
    rw [← r.length, Array.length_toList] at hz'
    refine JE.of0 I (sized (call_tuple_list ⟨_, g, rfl, _, rfl⟩ (fun h' hk hs => ?_) (by rw [sizeLine_eq]; exact fits16 hz')))
    have S := Step.keeps fs Wr0 s (k := s.toks) (h := h'.push (tupO its 0)) (fun a o e => Heap.get?_push_of_some _ (hk a o e)) hs
    refine ⟨S, _, its, 0, rfl, Heap.get?_push_size _ rfl, fun z => ?_, DRels.step I.stk S.of0 (Ext.refl _ _) r⟩
    refine E1A1 (I.there z) fun o ho => ?_
    exact absurd (Heap.lt_size (hk _ _ ho)) (Nat.lt_irrefl _)
  induction v with
  | loc => exact lst
  | d x =>
    cases x with
    | tup x =>
      have h' := h
      refine VRel.tupE (P := fun w => VRel X s.heap ρ (.d (.tup x)) w → JE X cG fs A (call (.type "tuple") [w] []) (VRel X) own ρ (tupV (.d (.tup x)) H) s) h (fun a its k g q r h' => ?_) h
      exact JE.of0 I (call_tuple_same ⟨_, g, rfl, _, rfl⟩ ⟨Step.refl _ _ _, h'⟩)
    | list x => exact lst
    | _ => trivial
theorem lstV_snd (I : Inv X fs ρ H s) {v : V} {w : Value} (h : VRel X s.heap ρ v w) : JE X cG fs A (call (.type "list") [w] []) (VRel X) own ρ (R.opt (listOf H v) fun l => R.guard (decide (l.length ≤ 16384)) (.ok (.d (.list l)) H)) s := by
  refine JE.opt fun l hl => listOf_E I h hl fun a its k g r => JE.guard fun hz => ?_
  have hz' := of_decide_eq_true hz
  rw [← r.length, Array.length_toList] at hz'
  refine JE.of0 I (sized (call_list_seq (hsz := by rw [sizeLine_eq]; exact fits16 hz') a (.inl rfl) g rfl rfl fun h' c' hk hD hs => ?_))
  have S := Step.keeps fs Wr0 s (k := s.toks) hk hs
  exact ⟨S, _, its, c', rfl, hD, I.fresh, DRels.step I.stk S.of0 (Ext.refl _ _) r⟩
theorem small_log {k : Int} (hz : smallI k = true) : k.natAbs.log2 < 64 := by
  simp only [smallI, Bool.and_eq_true, decide_eq_true_eq] at hz
  by_cases q : k.natAbs = 0
  · rw [q]; decide
  · exact (Nat.log2_lt q).mpr (by lia)
theorem blt1_snd (G : GvOK X) (hR : reprSnd X cG) {n : Nat} (hA : AOK n A fs) (I : Inv X fs ρ H s) (g : Nat) {v : V} {w : Value} (h : VRel X s.heap ρ v w) :
    JE X cG fs A (call (X.gval g) [w] []) (VRel X) own ρ (blt1 g v H) s := by
  revert G hR hA I h; revert X cG fs A own s ρ H n g v w
  refine @(eps10 (P := ?P) (dX, dN, dG, dA, (default : PySem.Addr → Prop), dS, dR, dH, dN, dN) rfl ((?m : Pi10 ?P) _ _ _ _ _ _ _ _ _ _))
  intro X cG fs A own s ρ H n g v w G hR hA I h
  rcases g with _ | _ | _ | _ | _ | _ | _ | _ | _ | g
  · have z := len_snd (cG := cG) (A := A) (own := own) I h; rw [← G.g0] at z; exact z
  · trivial
  · trivial
  · have z := intV_snd (cG := cG) (A := A) (own := own) I h; rw [← G.g3] at z; exact z
  · have z := tupV_snd (cG := cG) (A := A) (own := own) I h; rw [← G.g4] at z; exact z
  · have z := lstV_snd (cG := cG) (A := A) (own := own) I h; rw [← G.g5] at z; exact z
  · induction v with
    | loc => trivial
    | d x =>
      refine JE.guard fun hz => ?_
      rw [Bool.and_eq_true, Bool.and_eq_true] at hz
      have z := hR fs A own s ρ H n _ w hA I h hz.1.1 (of_decide_eq_true hz.1.2) (of_decide_eq_true hz.2)
      rw [← G.g6] at z
      exact z
  · refine JE.opt fun k q => VRel.intO h q fun t => JE.guard fun hz => ?_
    have z : JE X cG fs A (call (.type "str") [.int k t] []) (VRel X) own ρ (retS (Str.ofString (toString k)) H) s := JE.of0 I (P.str_of_int (Nat.lt_trans (small_log hz) (by decide)) ⟨Step.tok _ _ _ _, _, rfl⟩)
    rw [← G.g7] at z; exact z
  · refine JE.opt fun k q => VRel.intO h q fun t => JE.guard fun hz => ?_
    have z : JE X cG fs A (call (.type "range") [.int k t] []) (VRel X) own ρ (.ok (.d (.rng k)) H) s := JE.of0 I (call_range_raw ⟨Step.push _ _ _ _ _, _, _, _, _, rfl, Heap.get?_push_size _ rfl, I.fresh⟩)
    rw [← G.g8] at z; exact z
  · trivial
theorem blt2_snd (G : GvOK X) {n : Nat} (hA : AOK n A fs) (I : Inv X fs ρ H s) (g : Nat) {v v' : V} {w w' : Value} (h1 : VRel X s.heap ρ v w) (h2 : VRel X s.heap ρ v' w') :
    JE X cG fs A (call (X.gval g) [w, w'] []) (VRel X) own ρ (blt2 g v v' H) s := by
  rcases g with _ | _ | _ | g
  · trivial
  · have z : JE X cG fs A (call (.builtin "min") [w, w'] []) (VRel X) own ρ (blt2 1 v v' H) s := by
      refine int2_snd (t := fun w w' => call (.builtin "min") [w, w'] []) h1 h2 fun a b p q => JE.of0 I (sized (min_two_ints hA.handled fun h' tk hk hs => ⟨Step.keeps _ _ _ hk hs, ?_⟩))
      by_cases q : b < a
      · rw [if_pos q, if_pos q]; exact ⟨_, rfl⟩
      · rw [if_neg q, if_neg q]; exact ⟨_, rfl⟩
    rw [← G.g1] at z; exact z
  · have z : JE X cG fs A (call (.builtin "max") [w, w'] []) (VRel X) own ρ (blt2 2 v v' H) s := by
      refine int2_snd (t := fun w w' => call (.builtin "max") [w, w'] []) h1 h2 fun a b p q => JE.of0 I (sized (max_two_ints hA.handled fun h' tk hk hs => ⟨Step.keeps _ _ _ hk hs, ?_⟩))
      by_cases q : a < b
      · rw [if_pos q, if_pos q]; exact ⟨_, rfl⟩
      · rw [if_neg q, if_neg q]; exact ⟨_, rfl⟩
    rw [← G.g2] at z; exact z
  · trivial
theorem blt_snd (G : GvOK X) (hR : reprSnd X cG) {n : Nat} (hA : AOK n A fs) (I : Inv X fs ρ H s) (g : Nat) {vs : List V} {ws : List Value} (hv : VRels X s.heap ρ vs ws) :
    JE X cG fs A (call (X.gval g) ws []) (VRel X) own ρ (bltn g vs H) s := by
  rcases vs with _ | ⟨v, _ | ⟨v', _ | ⟨v2, r⟩⟩⟩
  · trivial
  · refine E1A2 (hv.one) fun w e h => ?_
    rw [e]
    exact blt1_snd G hR hA I g h
  · refine E2A3 (hv.two) fun w w' e h1 h2 => ?_
    rw [e]
    exact blt2_snd G hA I g h1 h2
  · trivial
end
end Mine
end
section
namespace Mine
open PySem PySem.Calls PyProof.Rows
section
variable {X : Wd} {cG : Addr} {h : Heap} {ρ : Rho}
mutual
theorem reads_of : ∀ {d : D} {v : Value}, reprOk d = true → DRel X h ρ d v → ∃ as, Reads h v (toPy d) as
  | .none, _, _, e => by rw [show _ = Value.none from e]; exact ⟨[], .none⟩
  | .bool b, _, _, e => by rw [show _ = Value.bool b from e]; exact ⟨[], .bool b⟩
  | .int i, _, _, ⟨t, e⟩ => by rw [e]; exact ⟨[], .int i t⟩
  | .str s, _, _, ⟨t, e⟩ => by rw [e]; exact ⟨[], .str s t⟩
  | .tup l, _, o, ⟨a, its, n, e, g, _, r⟩ => by
    refine E1A1 (readsAll_of o r) fun as z => ?_
    rw [e]
    exact ⟨as, .tuple g rfl rfl z⟩
  | .list l, _, o, ⟨a, its, n, e, g, _, r⟩ => by
    refine E1A1 (readsAll_of o r) fun as z => ?_
    rw [e]
    exact ⟨a :: as, .list g rfl rfl z⟩
  | .gv _, _, o, _ => nomatch (show false = true from o)
  | .rng _, _, o, _ => nomatch (show false = true from o)
theorem readsAll_of : ∀ {d : List D} {v : List Value}, reprOks d = true → DRels X h ρ d v → ∃ as, ReadsAll h v (toPys d) as
  | [], _, _, e => by rw [show _ = [] from e]; exact ⟨[], .nil⟩
  | x :: r, _, o, ⟨w, s, e, a, b⟩ => by
    have o := Bool.and_eq_true_iff.mp (show (reprOk x && reprOks r) = true from o)
    refine E1A1 (reads_of o.1 a) fun as z => ?_
    refine E1A1 (readsAll_of o.2 b) fun bs z' => ?_
    rw [e]
    exact ⟨as ++ bs, .cons z z'⟩
end
mutual
theorem shows_of : ∀ {d : D}, reprOk d = true → (toPy d).showable = true ∧ (toPy d).hasDict = false
  | .none, _ => ⟨rfl, rfl⟩
  | .bool b, _ => ⟨rfl, rfl⟩
  | .int i, o => by
    have o := of_decide_eq_true (show decide (i.natAbs < 1000000000000000000) = true from o)
    refine ⟨?_, rfl⟩
    refine decide_eq_true ?_
    by_cases q : i.natAbs = 0
    · rw [q]; decide
    · have : i.natAbs.log2 < 64 := (Nat.log2_lt q).mpr (by lia)
      lia
  | .str s, _ => ⟨rfl, rfl⟩
  | .tup l, o => showsAll_of (l := l) o
  | .list l, o => showsAll_of (l := l) o
  | .gv _, o => nomatch (show false = true from o)
  | .rng _, o => nomatch (show false = true from o)
theorem showsAll_of : ∀ {l : List D}, reprOks l = true → PyData.showableAll (toPys l) = true ∧ PyData.hasDictAll (toPys l) = false
  | [], _ => ⟨rfl, rfl⟩
  | x :: r, o =>
    have o := Bool.and_eq_true_iff.mp (show (reprOk x && reprOks r) = true from o)
    have a := shows_of o.1
    have b := showsAll_of o.2
    ⟨Bool.and_eq_true_iff.mpr ⟨a.1, b.1⟩, Bool.or_eq_false_iff.mpr ⟨a.2, b.2⟩⟩
end
theorem repr_snd : reprSnd X cG := by
  intro fs A own s ρ H n d v hA I hd ho hl hz
  revert hA I hd ho hl hz; revert X cG fs A own s ρ H n d v
  refine @(eps10 (P := ?P) (dX, dN, dG, dA, (default : PySem.Addr → Prop), dS, dR, dH, dN, dd) rfl ((?m : Pi10 ?P) _ _ _ _ _ _ _ _ _ _))
  intro X cG fs A own s ρ H n d v hA I hd ho hl hz
  refine E1A1 (reads_of ho hd) fun as r => ?_
  refine E0A2 (shows_of ho) fun s1 s2 => ?_
  have leaf : ∀ {t : Sem Value}, wpAny X.M A t (fun w s' => w = .str (reprD d) s.toks ∧ s' = { s with toks := s.toks + 1 }) (fun _ _ => False) s → JE X cG fs A t (VRel X) own ρ (retS (reprD d) H) s := fun z =>
    JE.of0 I (wpAny_mono z (fun w s' ⟨e1, e2⟩ => by subst e1 e2; exact ⟨Step.tok _ _ _ _, _, rfl⟩) fun _ _ z => z)
  have ref : ∀ {a : Addr}, Reads s.heap (.ref a) (toPy d) as → JE X cG fs A (call (.builtin "repr") [.ref a]) (VRel X) own ρ (retS (reprD d) H) s := fun {a} r => by
    refine JE.of0 I (sized (repr_of_reads' r s1 (PyData.noDict_hsm s2) hA.guards ?_ (fun _ _ e => e) (fun h' u tk hk hs => ⟨Step.keeps _ _ _ hk hs, _, rfl⟩) (by rw [line_is]; exact hl)))
    have := hA.units
    unfold cLine; lia
  cases d with
  | none => rw [show v = Value.none from hd]; exact leaf (P.repr_of_none ⟨rfl, rfl⟩)
  | bool b => rw [show v = Value.bool b from hd]; exact leaf (P.repr_of_bool ⟨rfl, rfl⟩)
  | int i =>
    refine E1A1 (hd) fun t hz1 => ?_; subst hz1; try clear hd
    refine leaf (P.repr_of_int ?_ ⟨rfl, rfl⟩)
    unfold toPy PyData.showable at s1
    exact of_decide_eq_true s1
  | str x =>
    refine E1A1 (hd) fun t hz1 => ?_; subst hz1; try clear hd
    exact leaf (P.repr_of_str ⟨rfl, rfl⟩ (by rw [line_is]; exact hl))
  | tup l =>
    refine E3A2 (hd) fun a its k hz3 _ => ?_; subst hz3; try clear hd
    exact ref r
  | list l =>
    refine E3A2 (hd) fun a its k hz3 _ => ?_; subst hz3; try clear hd
    exact ref r
  | gv _ => unfold reprOk at ho; cases ho
  | rng _ => unfold reprOk at ho; cases ho
end
end Mine
end
section
namespace Mine
open PySem PySem.Calls PyProof.Rows
section
variable {X : Wd} {cG : Addr} {fs : List Env} {A : Around} {own : Addr → Prop} {s : Shared} {ρ : Rho} {H : Hp}
noncomputable def Based (X : Wd) (h : Heap) : Prop := ∀ b o, X.B.get? b = some o → h.get? b = some o
theorem JE.bindW {α β γ δ : Type} {t : Sem α} {f : α → Sem γ} {t' : Sem γ} {r : R β} {k : β → Hp → R δ} {Rel : Heap → Rho → β → α → Prop} {Rel' : Heap → Rho → δ → γ → Prop}
    (h1 : JE X cG fs A t Rel own ρ r s)
    (h2 : ∀ b H' a s' ρ', Ext ρ s.heap.objs.size ρ' → Inv X fs ρ' H' s' → Rel s'.heap ρ' b a → Step fs (fun a => own a ∨ Wr ρ a) s s' → JE X cG fs A (f a) Rel' own ρ' (k b H') s')
    (w : ∀ (Q : γ → Shared → Prop) (E : Value → Shared → Prop), wpAny X.M A t (fun a s' => Based X s'.heap ∧ wpAny X.M A (f a) Q E s') E s → wpAny X.M A t' Q E s) :
    JE X cG fs A t' Rel' own ρ (r.bind k) s := by
  induction r with
  | bad => trivial
  | exc m sp H' => exact w _ _ (wpAny_mono h1 (fun _ _ x => x.elim) fun _ _ x => x)
  | ok b H' =>
    show JE X cG fs A t' Rel' own ρ (k b H') s
    cases q : k b H' with
    | bad => trivial
    | ok c H'' =>
      refine w _ _ (wpAny_mono h1 (fun a s' z => ?_) fun _ _ x => x.elim)
      obtain ⟨ρ', e, I, R, S⟩ := z
      have z := h2 b H' a s' ρ' e I R S
      rw [q] at z
      refine ⟨I.base, wpAny_mono z (fun c s'' y => ?_) fun _ _ x => x⟩
      obtain ⟨ρ'', e', I', R', S'⟩ := y
      refine ⟨ρ'', e.trans e' S.size, I', R', S.trans S' fun a l w => ?_⟩
      rcases w with w | w
      · exact .inl w
      · exact .inr ((e.old l).mp w)
    | exc m sp H'' =>
      refine w _ _ (wpAny_mono h1 (fun a s' z => ?_) fun _ _ x => x.elim)
      obtain ⟨ρ', e, I, R, S⟩ := z
      have z := h2 b H' a s' ρ' e I R S
      rw [q] at z
      refine ⟨I.base, wpAny_mono z (fun _ _ x => x) fun c s'' y => ?_⟩
      obtain ⟨ρ'', e', I', R', S'⟩ := y
      refine ⟨ρ'', e.trans e' S.size, I', R'.down S.size, S.trans S' fun a l w => ?_⟩
      rcases w with w | w
      · exact .inl w
      · exact .inr ((e.old l).mp w)
noncomputable def CallOK (X : Wd) (f : Value) : Prop := ∀ h, Based X h → ∃ k, (k = Keeper.frame ∨ k = Keeper.machine ∨ k = Keeper.boundFrame) ∧ W.Looks X.M h (keeperOf f) k
theorem CallOK.builtin (X : Wd) (id : String) : CallOK X (.builtin id) := fun _ _ => ⟨.machine, .inr (.inl rfl), W.Looks.of_pure rfl⟩
theorem CallOK.type (X : Wd) (id : String) : CallOK X (.type id) := fun _ _ => ⟨.machine, .inr (.inl rfl), W.Looks.of_pure rfl⟩
theorem noStar (p : Pos) (env : Env) : ∀ (es : List Expr), es.any isStar = false → (backTo p (starEach es env)).any (·.1) = false ∧ (backTo p (starEach es env)).all (!·.1) = true
  | [], _ => ⟨rfl, rfl⟩
  | e :: r, h => by
    rw [List.any_cons, Bool.or_eq_false_iff] at h
    rw [starEach_cons h.1]
    have := noStar p env r h.2
    exact ⟨by show (false || _) = false; rw [Bool.false_or]; exact this.1, by show (true && _) = true; rw [Bool.true_and]; exact this.2⟩
theorem evalArgs_any {M : Model} {E : Value → Shared → Prop} {f : Value} (p : Pos) (env : Env) {Q : Args → Shared → Prop} : ∀ (es : List Expr), es.any isStar = false → wpAny M A (spliced (backTo p (starEach es env))) (fun vs s' => Q ⟨vs, []⟩ s') E s →
    wpAny M A (evalArgs f true (backTo p (starEach es env)) []) Q E s
  | [], _, h => by
    unfold evalArgs
    show wpAny M A (spliced [] >>= _) Q E s
    refine wpAny_bind (wpAny_mono h (fun vs s' z => wpAny_bind (wpAny_pure ?_)) fun _ _ z => z)
    exact wpAny_holding (wpAny_bind (wpAny_pure (wpAny_bind (wpAny_pure (wpAny_pure z)))))
  | e :: r, hs, h => by
    rw [List.any_cons, Bool.or_eq_false_iff] at hs
    rw [starEach_cons hs.1] at h ⊢
    exact evalArgs_plain h
theorem callWith_any {E : Value → Shared → Prop} {f : Value} (C : CallOK X f) (p p' : Pos) (env : Env) (first : List Value) (es : List Expr) (hs : es.any isStar = false) {Q : Value → Shared → Prop}
    (h : wpAny X.M A (spliced (backTo p (starEach es env))) (fun vs s' => Based X s'.heap ∧ wpAny X.M A (call f (first ++ vs) []) Q E s') E s) : wpAny X.M A (callWith p' f first (backTo p (starEach es env)) []) Q E s :=
  W.callWith_of (P := Based X) (by rw [(noStar p env es hs).1]; rfl) C (evalArgs_any p env es hs h)
end
section
variable {X : Wd} {cG : Addr} {T : Tab} {fs : List Env} {A : Around} {s s' : Shared} {ρ ρ' : Rho} {env : Env} {ks : Ks} {loc : Loc} {H H' : Hp} {n m : Nat}
theorem callW_snd (hE : SndE X cG T n) (hA : AOK n A fs) (hV : EnvOK X env ks) (a : At X fs env ks loc ρ H s) {f : Value} (C : CallOK X f) (p p' : Pos) (first : List Value) (es : List Expr) (hs : es.any isStar = false) {k : List V → Hp → R V}
    (h : ∀ vs H' ws s' ρ', Ext ρ s.heap.objs.size ρ' → At X fs env ks loc ρ' H' s' → VRels X s'.heap ρ' vs ws → Step fs (fun a => noOwn a ∨ Wr ρ a) s s' → JE X cG fs A (call f (first ++ ws) []) (VRel X) noOwn ρ' (k vs H') s') :
    JE X cG fs A (callWith p' f first (backTo p (starEach es env)) []) (VRel X) noOwn ρ ((evalL (evalE T n ks loc) (es.map (erE X.f m)) H).bind k) s :=
  JE.bindW (spliced_snd hE hA hV p es hs a) (fun vs H' ws s' ρ' x I R S => h vs H' ws s' ρ' x (a.next x I S) R S) fun Q E z => callWith_any C p p' env first es hs z
theorem attrBase {o : Expr} {x : Str} {whole : Sem Value} (h : attrO o = true) : attributeBase o x env whole = whole := by
  cases o <;> first | rfl | cases h
theorem meth_tree {o : Expr} {x : Str} {apos pos : Pos} {args : List Expr} (ho : attrO o = true) (hs : args.any isStar = false)
    (hp : (apos.endLine == pos.line) = true) (hl : args.length < 20) :
    eval (.Call (.Attribute o x apos) args [] pos) env = (eval o env >>= fun ov => standAt apos.atName >>= fun _ => holding [ov] (getMethod ov x (do return (← importBound o env).getD true)) >>= fun fx =>
      callWith pos fx.1 fx.2 (backTo pos (starEach args env)) []) := by
  have hlen : ∀ l : List Expr, (backTo pos (starEach l env)).length = l.length := by
    intro l
    unfold backTo
    rw [List.length_map]
    induction l with
    | nil => rfl
    | cons e r ih => cases e <;> exact congrArg (· + 1) ih
  have e1 : methodCallForm (args.length + ([] : List Keyword).length) (backTo pos (starEach args env)) [] = true := by
    unfold methodCallForm
    rw [(noStar pos env args hs).2]
    simp
    lia
  rw [arm_eval_Call, attrBase ho]
  unfold methodCall
  rw [show backToKw pos (keywordEach [] env) = [] from rfl, e1]
  unfold calleeOf methodCallPos
  rw [hp]
  rfl
end
end Mine
end
section
namespace Mine
open PySem PySem.Calls PyProof.Rows
section
variable {X : Wd} {cG : Addr} {fs : List Env} {A : Around} {own : Addr → Prop} {s : Shared} {ρ : Rho} {H : Hp}
theorem Step.one {h' : Heap} {a : Addr} {k : Nat} (W : Addr → Prop) (ha : W a) (hs : Heap.SameBut a s.heap h') (hf : ∀ o es n, s.heap.get? a = some o → o.data = .dict es n → ∃ o' es' n', h'.get? a = some o' ∧ o'.data = .dict es' n') :
    Step fs W s { s with heap := h', toks := k } where
  gens := rfl
  os := rfl
  size := Nat.le_of_eq hs.1.symm
  keep b o e n := ⟨o.slots, (hs.2 b fun q => n (q ▸ ha)).trans e, .inl rfl⟩
  flat b o es n e q := by
    by_cases hb : b = a
    · subst hb; exact hf o es n e q
    · exact ⟨o, es, n, (hs.2 b hb).trans e, q⟩
theorem StkOK.ofStep {W : Addr → Prop} {s' : Shared} (I : Inv X fs ρ H s) (S : Step fs W s s') : StkOK X fs s'.heap := I.stk.step S
theorem Inv.turn {h' : Heap} {a : Addr} {k i : Nat} {p : Addr × Addr} {o' : O} (I : Inv X fs ρ H s) (hp : ρ[i]? = some p) (ha : a = p.1 ∨ a = p.2) (hs : Heap.SameBut a s.heap h')
    (S : Step fs (Wr ρ) s { s with heap := h', toks := k }) (ho : ORel X h' ρ p o') : Inv X fs ρ (H.set i o') { s with heap := h', toks := k } where
  rel := by
    refine ⟨by rw [I.rel.len, List.length_set], fun j q o hq hj => ?_, I.rel.apart, I.rel.above⟩
    rw [List.getElem?_set] at hj
    by_cases e : i = j
    · subst e
      rw [if_pos rfl] at hj
      rw [hp] at hq
      cases hq
      split at hj
      · cases hj; exact ho
      · cases hj
    · rw [if_neg e] at hj
      have z := I.rel.obj j q o hq hj
      refine E0A4 (I.rel.apart i j p q e hp hq) fun a1 a2 a3 a4 => ?_
      have n1 : q.1 ≠ a := by rcases ha with rfl | rfl; exact Ne.symm a1; exact Ne.symm a3
      have n2 : q.2 ≠ a := by rcases ha with rfl | rfl; exact Ne.symm a2; exact Ne.symm a4
      induction o with
      | list l =>
        obtain ⟨e, its, n, g, r⟩ := z
        exact ⟨e, its, n, (hs.2 _ n1).trans g, DRels.step I.stk S (Ext.refl _ _) r⟩
      | inst l =>
        obtain ⟨g, es, n, g', r⟩ := z
        exact ⟨(hs.2 _ n1).trans g, es, n, (hs.2 _ n2).trans g', FRels.step I.stk S (Ext.refl _ _) r⟩
  base b o e := by
    have hb : b ≠ a := fun q => by
      subst q
      have := I.rel.above p (List.mem_of_getElem? hp)
      have l := Heap.lt_size e
      rcases ha with rfl | rfl
      · exact absurd l (Nat.not_lt.mpr this.1)
      · exact absurd l (Nat.not_lt.mpr this.2)
    exact (hs.2 b hb).trans (I.base b o e)
  stk := I.stk.step S
  off := I.off
  sz := Nat.le_trans I.sz S.size
structure NmOK (X : Wd) : Prop where
  n11 : X.nm 11 = Str.ofString "append"
  n12 : X.nm 12 = Str.ofString "join"
  n13 : X.nm 13 = Str.ofString "isalpha"
  n14 : X.nm 14 = Str.ofString "split"
  n15 : X.nm 15 = Str.ofString "__init__"
  n16 : X.nm 16 = Str.ofString "message"
  n17 : X.nm 17 = Str.ofString "spot"
  n18 : X.nm 18 = Str.ofString "fault"
  n10 : X.nm 10 = Str.ofString "GrammarFault"
theorem append_raw {prog : Program} {w : World} {E : Value → Shared → Prop} {l : Addr} {its : Array Value} {n : Nat} {x : Value} {Q : Value → Shared → Prop} (hl : s.heap.get? l = some (lstO its n)) (hz : its.size ≤ sizeLine)
    (h : Q .none { s with heap := s.heap.update l (Obj.mapSeq (·.push x)) }) : wpAny (model prog w) A (call (.builtin "list.append") [.ref l, x]) Q E s :=
  call_meets F.slot_list_append ⟨_, hl, rfl⟩ F.entry_list_append (F.args_list_append_2 _ _) (list_append l its n x hz) ⟨hl, h⟩
theorem append_snd (I : Inv X fs ρ H s) {i : Nat} {p : Addr × Addr} {l : List D} {x : D} {v : Value} (hp : ρ[i]? = some p) (hi : H[i]? = some (.list l)) (hx : DRel X s.heap ρ x v) (hl : l.length < 16000) :
    JE X cG fs A (call (.builtin "list.append") [.ref p.1, v] []) (VRel X) own ρ (.ok (.d .none) (H.set i (.list (l ++ [x])))) s := by
  revert I hp hi hx hl; revert X cG fs A own s ρ H i p l x v
  refine @(eps13 (P := ?P) (dX, dN, dG, dA, (default : PySem.Addr → Prop), dS, dR, dH, dN, (default : PySem.Addr × PySem.Addr), du, dd, dV) rfl ((?m : Pi13 ?P) _ _ _ _ _ _ _ _ _ _ _ _ _))
  intro X cG fs A own s ρ H i p l x v I hp hi hx hl
  obtain ⟨e, its, n, g, r⟩ := I.rel.obj i p _ hp hi
  have el := r.length
  rw [Array.length_toList] at el
  have hs : Heap.SameBut p.1 s.heap (s.heap.update p.1 (Obj.mapSeq (·.push v))) := Heap.SameBut.update ..
  have g' := IsL.update g (·.push v)
  have S : Step fs (Wr ρ) s { s with heap := s.heap.update p.1 (Obj.mapSeq (·.push v)), toks := s.toks } := Step.one _ (Wr.of1 hp) hs (fun o es n' q d => by rw [g] at q; cases q; cases d)
  refine append_raw g (by rw [sizeLine_eq]; lia) ?_
  refine ⟨ρ, Ext.refl _ _, I.turn (k := s.toks) (o' := .list (l ++ [x])) hp (.inl rfl) hs S ⟨e, _, _, g', ?_⟩, rfl, S.mono fun a z => .inr z⟩
  have := DRels.step I.stk S (Ext.refl _ _) (r.append (show DRels X s.heap ρ [x] [v] from ⟨v, [], rfl, hx, rfl⟩))
  simpa using this
theorem split_raw {prog : Program} {w : World} {E : Value → Shared → Prop} {x y : Str} {t u : Tok} {Q : Value → Shared → Prop} (hy : (y.length == 0) = false) (hx : x.length ≤ sizeLine) (hn : (Txt.split x y).length ≤ sizeLine)
    (h : ∀ ps : List (Str × Tok), ∀ k, ps.map (·.1) = Txt.split x y → Q (.ref s.heap.objs.size) { s with heap := s.heap.push (lstO (strValues ps).toArray 0), toks := k }) :
    wpAny (model prog w) A (call (.builtin "str.split") [.str x t, .str y u]) Q E s := by
  cases h1 : (decide (x.length < y.length) || decide (Builtin.Str.strKind x < Builtin.Str.strKind y))
  · cases hf : (Builtin.Str.occurrences x y 0 x.length (x.length + 1)).isEmpty
    · have e : Txt.split x y = Builtin.Str.partsBetween x (Builtin.Str.occurrences x y 0 x.length (x.length + 1)) y.length := (if_neg (ne_true_of_eq_false h1)).trans (if_neg (ne_true_of_eq_false hf))
      refine call_meets F.slot_str_split (typeIs_str _ _ _) F.entry_str_split (F.args_str_split_2 _ _) (meets_str_split_sep x y t u h1 hy hf hx (e ▸ hn)) ?_
      rw [strsFrom_eq]
      exact h (numbered s.toks _) _ ((numbered_texts _ _).trans e.symm)
    · exact call_meets F.slot_str_split (typeIs_str _ _ _) F.entry_str_split (F.args_str_split_2 _ _) (meets_str_split_not_found x y t u h1 hy hf) (h [(x, t)] _ ((if_neg (ne_true_of_eq_false h1)).trans (if_pos hf)).symm)
  · exact call_meets F.slot_str_split (typeIs_str _ _ _) F.entry_str_split (F.args_str_split_2 _ _) (meets_str_split_cannot_occur x y t u h1) (h [(x, t)] _ (if_pos h1).symm)
theorem DRels.ofStrs {h : Heap} : ∀ (ps : List (Str × Tok)), DRels X h ρ ((ps.map (·.1)).map D.str) (strValues ps)
  | [] => rfl
  | p :: r => ⟨.str p.1 p.2, strValues r, rfl, ⟨_, rfl⟩, DRels.ofStrs r⟩
theorem strMeth_snd (Y : NmOK X) (I : Inv X fs ρ H s) (m : Nat) {x : Str} {t : Tok} {vs : List V} {ws : List Value} (hv : VRels X s.heap ρ vs ws) (id : String) (hid : (m = 12 ∧ id = "str.join") ∨ (m = 13 ∧ id = "str.isalpha") ∨ (m = 14 ∧ id = "str.split")) :
    JE X cG fs A (call (.builtin id) ([.str x t] ++ ws) []) (VRel X) own ρ (strMeth m x vs H) s := by
  revert Y I hv hid; revert X cG fs A own s ρ H m x t vs ws id
  refine @(eps13 (P := ?P) (dX, dN, dG, dA, (default : PySem.Addr → Prop), dS, dR, dH, dN, ds, (default : PySem.Tok), (default : List Mine.V), (default : List PySem.Value)) rfl ((?m : Pi13 ?P) _ _ _ _ _ _ _ _ _ _ _ _ _))
  intro X cG fs A own s ρ H m x t vs ws id Y I hv hid
  rcases hid with ⟨hm, hi⟩ | ⟨hm, hi⟩ | ⟨hm, hi⟩
  · rw [hm, hi]
    rcases vs with _ | ⟨v, _ | ⟨v', r⟩⟩
    · trivial
    · refine E1A2 (hv.one) fun w e h => ?_
      rw [e]
      refine JE.opt fun l hl => JE.opt fun ss hss => listOf_E (P := fun w => JE X cG fs A (call (.builtin "str.join") ([.str x t] ++ [w]) []) (VRel X) own ρ (R.guard (JoinOk x ss) (retS (Txt.join x ss) H)) s) I h hl fun a its n g r => ?_
      refine E1A2 (r.strs hss) fun ps e1 e2 => ?_
      refine JE.guard fun hok => JE.of0 I (SC.join (l := ps) ⟨_, g, rfl, n, ?_⟩ e2 hok fun t' k => ⟨Step.tok _ _ _ _, _, rfl⟩)
      rw [← e1]
    · trivial
  · rw [hm, hi]
    cases vs with
    | nil =>
      rw [show ws = [] from hv]
      exact JE.of0 I (SC.isalpha ⟨Step.refl _ _ _, rfl⟩)
    | cons => trivial
  · rw [hm, hi]
    rcases vs with _ | ⟨v, _ | ⟨v', r⟩⟩
    · trivial
    · refine E1A2 (hv.one) fun w e h => ?_
      rw [e]
      refine JE.opt fun y q => VRel.strO (P := fun w => JE X cG fs A (call (.builtin "str.split") ([.str x t] ++ [w]) []) (VRel X) own ρ (R.guard (decide (x.length ≤ 1000000) && decide (0 < y.length) && decide ((Txt.split x y).length ≤ line)) (.ok (.d (.list ((Txt.split x y).map .str))) H)) s) h q fun u => JE.guard fun hg => ?_
      simp only [Bool.and_eq_true, decide_eq_true_eq] at hg
      refine JE.of0 I (split_raw (by simp only [beq_eq_false_iff_ne]; lia) (by rw [sizeLine_eq]; lia) (by rw [line_is]; exact hg.2) fun ps k e => ?_)
      have := newLs (fs := fs) I (DRels.ofStrs (X := X) (h := s.heap) (ρ := ρ) ps) k 0
      rw [e] at this
      exact this
    · trivial
end
end Mine
end
section
namespace Mine
open PySem PySem.Calls PyProof.Rows PySem.W
section
variable {X : Wd} {h : Heap} {ρ : Rho}
theorem FRels.length : ∀ {fs : List (Nat × D)} {es : List DictEntry}, FRels X h ρ fs es → es.length = fs.length
  | [], _, e => by rw [show _ = [] from e]; rfl
  | _ :: _, _, ⟨e, r, t, q, _, _, _, b⟩ => by rw [q, List.length_cons, List.length_cons, FRels.length b]
theorem isStr_nm (N : NamesOK X) {a b : Nat} {t : Tok} : (Value.str (X.nm a) t).isStr (X.nm b) = (b == a) := by
  show (X.nm a == X.nm b) = (b == a)
  by_cases q : b = a
  · subst q; simp
  · rw [beq_eq_false_iff_ne.mpr q, beq_eq_false_iff_ne.mpr fun e => q (N.nmInj _ _ e.symm)]
theorem FRels.noRef : ∀ {fs : List (Nat × D)} {es : List DictEntry}, FRels X h ρ fs es → es.any (·.refKey) = false
  | [], _, e => by rw [show _ = [] from e]; rfl
  | _ :: _, _, ⟨e, r, t, q, k, _, _, b⟩ => by
    rw [q, List.any_cons, FRels.noRef b, Bool.or_false]
    unfold DictEntry.refKey
    rw [k]
theorem FRels.find (N : NamesOK X) (a : Nat) : ∀ {fs : List (Nat × D)} {es : List DictEntry}, FRels X h ρ fs es →
    match fs.lookup a with
    | some d => ∃ e, es.find? (·.key.isStr (X.nm a)) = some e ∧ DRel X h ρ d e.val
    | Option.none => es.find? (·.key.isStr (X.nm a)) = none
  | [], _, e => by rw [show _ = [] from e]; rfl
  | (b, d) :: fs, _, ⟨e, r, t, q, k, _, z, y⟩ => by
    rw [q, List.lookup_cons, List.find?_cons, k, isStr_nm N]
    cases c : a == b with
    | true => exact ⟨e, rfl, z⟩
    | false => exact FRels.find N a y
theorem FRels.getL_some (N : NamesOK X) {a : Nat} {fs : List (Nat × D)} {es : List DictEntry} {d : D} (F : FRels X h ρ fs es) (e : fs.lookup a = some d) : ∃ v, getL (X.nm a) es = some (some v) ∧ DRel X h ρ d v := by
  have := F.find N a
  rw [e] at this
  refine E1A2 (this) fun x q z => ?_; try clear this
  exact ⟨x.val, by unfold getL; rw [q], z⟩
theorem FRels.getL_none (N : NamesOK X) {a : Nat} {fs : List (Nat × D)} {es : List DictEntry} (F : FRels X h ρ fs es) (e : fs.lookup a = none) : getL (X.nm a) es = some none := by
  have := F.find N a
  rw [e] at this
  unfold getL
  rw [this, F.noRef]
  rfl
theorem FRels.getL_isSome (N : NamesOK X) (a : Nat) {fs : List (Nat × D)} {es : List DictEntry} (F : FRels X h ρ fs es) : (getL (X.nm a) es).isSome = true := by
  cases q : fs.lookup a with
  | some d => obtain ⟨v, z, _⟩ := F.getL_some N q; rw [z]; rfl
  | none => rw [F.getL_none N q]; rfl
theorem FRels.put (N : NamesOK X) {a : Nat} {d : D} {v : Value} {t : Tok} (z : DRel X h ρ d v) : ∀ {fs : List (Nat × D)} {es : List DictEntry}, FRels X h ρ fs es →
    FRels X h ρ (setField fs a d) (putL (X.nm a) (PyData.keyHash X.w.params (X.nm a)) (.str (X.nm a) t) v es)
  | [], _, e => by rw [show _ = [] from e]; exact ⟨_, [], t, rfl, rfl, rfl, z, rfl⟩
  | (b, w) :: fs, _, ⟨e, r, u, q, k, hh, y, b'⟩ => by
    rw [q]
    unfold setField putL
    rw [k, isStr_nm N]
    by_cases c : b = a
    · subst c
      rw [if_pos rfl, if_pos (by simp)]
      exact ⟨_, r, u, rfl, rfl, hh, z, b'⟩
    · rw [if_neg c, if_neg (by simpa using fun e => c e.symm)]
      exact ⟨e, _, u, rfl, k, hh, y, FRels.put N z b'⟩
end
structure ClsOK (X : Wd) (K : Frag) (T : Tab) : Prop where
  inB : K.In X.B
  ga : plainGet K X.cW (X.nm 0) = true
  hd : hasDictIn K X.cW = true
  attr : ∀ a, attrIds.contains a = true → findIn K (.ref X.cW) (X.nm a) = some none
  meth : ∀ m f, T.meth m = some f → ∃ fa, X.gval f = .ref fa ∧ findIn K (.ref X.cW) (X.nm m) = some (some (.ref fa)) ∧ isFn K (.ref fa) = true
  sa : findIn K (.ref X.cW) "__setattr__" = some (some (.builtin "object.__setattr__"))
  po : plainOver K X.cW = true
  hv : ∀ g, handedIn (X.gval g) = true
  mkC : makesIn K X.cW = true
  g9 : X.gval 9 = .ref X.cW
section
variable {X : Wd} {cG : Addr} {T : Tab} {K : Frag} {fs : List Env} {A : Around} {own : Addr → Prop} {s : Shared} {ρ : Rho} {H : Hp}
theorem Inv.frag (I : Inv X fs ρ H s) (C : ClsOK X K T) : K.In s.heap := C.inB.keeps I.base
theorem instAt {p : Addr × Addr} {es : List DictEntry} {n : Nat} (h1 : s.heap.get? p.1 = some (insO X.cW p.2)) (h2 : s.heap.get? p.2 = some (dicO es n)) : InstAt s.heap p.1 (insO X.cW p.2) X.cW (some (dictOf es n)) :=
  ⟨h1, rfl, rfl, h2⟩
theorem DRel.handed (C : ClsOK X K T) {h : Heap} : ∀ {d : D} {v : Value}, DRel X h ρ d v → handedIn v = true
  | .none, _, e => by rw [show _ = _ from e]; rfl
  | .bool _, _, e => by rw [show _ = _ from e]; rfl
  | .int _, _, ⟨t, e⟩ => by rw [e]; rfl
  | .str _, _, ⟨t, e⟩ => by rw [e]; rfl
  | .tup _, _, ⟨a, i, n, e, _⟩ => by rw [e]; rfl
  | .list _, _, ⟨a, i, n, e, _⟩ => by rw [e]; rfl
  | .gv g, _, e => by rw [show _ = X.gval g from e]; exact C.hv g
  | .rng _, _, ⟨a, t, u, w, e, _⟩ => by rw [e]; rfl
theorem attr_snd (N : NamesOK X) (C : ClsOK X K T) (I : Inv X fs ρ H s) {i a : Nat} {p : Addr × Addr} {l : List (Nat × D)} {d : D} {b : Bool} (hp : ρ[i]? = some p) (hi : H[i]? = some (.inst l)) (hl : l.lookup a = some d) (ha : attrIds.contains a = true) :
    JE X cG fs A (getAttr (.ref p.1) (X.nm a) b) (VRel X) own ρ (.ok (.d d) H) s := by
  obtain ⟨g1, es, n, g2, F⟩ := I.rel.obj i p _ hp hi
  refine E1A2 (F.getL_some N hl) fun v e R => ?_
  refine JE.of0 I (get_value (I.frag C) (instAt g1 g2) (plainGet_of C.ga).1 (findObj_own C.hd (C.attr a ha) rfl ((lookIn_dict ..).trans e)) (R.handed C) ⟨Step.tok _ _ _ _, R⟩)
theorem method_any (N : NamesOK X) (C : ClsOK X K T) (I : Inv X fs ρ H s) {E : Value → Shared → Prop} {i m f : Nat} {p : Addr × Addr} {l : List (Nat × D)} {pl : Sem Bool} {Q : Value × List Value → Shared → Prop} (hp : ρ[i]? = some p) (hi : H[i]? = some (.inst l)) (hl : l.lookup m = none) (hm : T.meth m = some f)
    (h : Q (X.gval f, [.ref p.1]) s) : wpAny X.M A (getMethod (.ref p.1) (X.nm m) pl) Q E s := by
  obtain ⟨g1, es, n, g2, F⟩ := I.rel.obj i p _ hp hi
  refine E1A3 (C.meth m f hm) fun fa e1 e2 e3 => ?_
  rw [e1] at h
  exact method_fn (I.frag C) (instAt g1 g2) (plainGet_of C.ga).1 (plainGet_of C.ga).2 e2 (beq_iff_eq.mp e3) (by show (lookIn _ (dictOf es n)).map _ = _; rw [lookIn_dict, F.getL_none N hl]; rfl) h
theorem osa_raw {prog : Program} {w : World} {x C dx : Addr} {R : Result → Shared → Prop} {es : List DictEntry} {n : Nat} {name : Str} {tk : Tok} {v : Value} (X : K.In s.heap) (h1 : s.heap.get? x = some (insO C dx)) (h2 : s.heap.get? dx = some (dicO es n))
    (hp : plainOver K C = true) (ht : takerIn K C name = some none) (hh : (clsIn K C).any (·.hasDict) = true) (hl : (getL name es).isSome = true) (hz : es.length < 900)
    (h : R (.ok (.ret .none)) { s with heap := s.heap.update dx (Obj.putName name (PyData.keyHash w.params name) (.str name s.toks) v), toks := s.toks + 1 }) :
    codeAny (model prog w) A (.call (.builtin "object.__setattr__") ⟨[.ref x, .str name tk, v], []⟩) R s := by
  revert X h1 h2 hp ht hh hl hz h; revert K A s prog w x C dx R es n name tk v
  refine @(eps13 (P := ?P) (df, dA, dS, (default : PySem.Program), dW, dN, dN, dN, (default : PySem.Result → PySem.Shared → Prop), (default : List PySem.DictEntry), dN, ds, (default : PySem.Tok)) rfl ((?m : Pi13 ?P) _ _ _ _ _ _ _ _ _ _ _ _ _))
  intro K A s prog w x C dx R es n name tk v X h1 h2 hp ht hh hl hz h
  have I : InstAt s.heap x (insO C dx) C (some (dictOf es n)) := ⟨h1, rfl, rfl, h2⟩
  refine osa_open X I hp ht fun b => ?_
  refine E1A2 (any_some hh) fun cd hc hd' => ?_
  refine wpAny_bind (wpAny_pure (wpAny_bind (wpAny_bind (wpAny_loadPart h1 (wpAny_bind ((looks_clsIn X hc).here ?_))))))
  rw [hd']
  refine wpAny_pure (a := some dx) (wpAny_bind (wpAny_pure (wpAny_bind ?_)))
  unfold nsSet
  refine wpAny_bind (wpAny_bind (wpAny_askSetting (wpAny_pure (wpAny_bind (wpAny_mkText (wpAny_bind (wpAny_loadPart h2 ?_)))))))
  dsimp only
  have c : (!es.toArray.any (·.key.isStr name) && es.toArray.any (·.refKey)) = false := by
    rw [← Array.any_toList, ← Array.any_toList]
    unfold getL at hl
    split at hl
    · rename_i en he
      rw [List.any_eq_true.mpr ⟨en, List.mem_of_find?_eq_some he, List.find?_some he⟩]; rfl
    · split at hl
      · cases hl
      · rename_i z; rw [Bool.not_eq_true] at z; rw [z, Bool.and_false]
  rw [aRefKeyMayBeTheName_at, c]
  refine wpAny_updatePart h2 ?_
  have e := putName_dict name (PyData.keyHash w.params name) (.str name s.toks) v es n
  have D' : (s.heap.update dx (Obj.putName name (PyData.keyHash w.params name) (.str name s.toks) v)).get? dx = some (dictOf (putL name (PyData.keyHash w.params name) (.str name s.toks) v es) (putN name es n)) := by
    rw [← e]
    exact Heap.get?_update_self _ h2 (by rw [e]; rfl)
  have hz' : ∀ es : List DictEntry, (putL name (PyData.keyHash w.params name) (.str name s.toks) v es).length ≤ es.length + 1 := by
    intro es
    induction es with
    | nil => exact Nat.le_refl _
    | cons e r ih =>
      unfold putL
      split
      · exact Nat.le_succ _
      · simpa using ih
  refine wpAny_bind (wpAny_lookBehind D' (pastItsLine_dict (by have := hz' es; rw [List.size_toArray, sizeLine_eq]; lia)) ?_)
  exact wpAny_pure h
theorem set_snd (N : NamesOK X) (C : ClsOK X K T) (I : Inv X fs ρ H s) {i a : Nat} {p : Addr × Addr} {l : List (Nat × D)} {d : D} {v : Value} (hp : ρ[i]? = some p) (hi : H[i]? = some (.inst l)) (ha : attrIds.contains a = true) (hz : l.length < 100) (hx : DRel X s.heap ρ d v) :
    JE X cG fs A (setAttr (.ref p.1) (X.nm a) v) (fun _ _ _ _ => True) own ρ (.ok () (H.set i (.inst (setField l a d)))) s := by
  revert N C I hp hi ha hz hx; revert X cG T K fs A own s ρ H i a p l d v
  refine @(eps16 (P := ?P) (dX, dN, dT, df, dG, dA, (default : PySem.Addr → Prop), dS, dR, dH, dN, dN, (default : PySem.Addr × PySem.Addr), (default : List (Nat × Mine.D)), dd, dV) rfl ((?m : Pi16 ?P) _ _ _ _ _ _ _ _ _ _ _ _ _ _ _ _))
  intro X cG T K fs A own s ρ H i a p l d v N C I hp hi ha hz hx
  obtain ⟨g1, es, n, g2, F⟩ := I.rel.obj i p _ hp hi
  have ht : takerIn K X.cW (X.nm a) = some none := by unfold takerIn; rw [C.attr a ha]; rfl
  have hq := F.length
  refine set_plain (I.frag C) (instAt g1 g2) C.sa (osa_raw (s := { s with toks := s.toks + 1 }) (I.frag C) g1 g2 C.po ht C.hd (F.getL_isSome N a) (by lia) ?_)
  have hs : Heap.SameBut p.2 s.heap (s.heap.update p.2 (Obj.putName (X.nm a) (PyData.keyHash X.w.params (X.nm a)) (.str (X.nm a) (s.toks + 1)) v)) := Heap.SameBut.update ..
  have e := putName_dict (X.nm a) (PyData.keyHash X.w.params (X.nm a)) (.str (X.nm a) (s.toks + 1)) v es n
  have D' : (s.heap.update p.2 (Obj.putName (X.nm a) (PyData.keyHash X.w.params (X.nm a)) (.str (X.nm a) (s.toks + 1)) v)).get? p.2 = some (dictOf (putL (X.nm a) (PyData.keyHash X.w.params (X.nm a)) (.str (X.nm a) (s.toks + 1)) v es) (putN (X.nm a) es n)) := by
    rw [← e]
    exact Heap.get?_update_self _ g2 (by rw [e]; rfl)
  have S : Step fs (Wr ρ) s { s with heap := s.heap.update p.2 (Obj.putName (X.nm a) (PyData.keyHash X.w.params (X.nm a)) (.str (X.nm a) (s.toks + 1)) v), toks := s.toks + 1 + 1 } :=
    Step.one _ (Wr.of2 hp) hs (fun o es' n' q d => ⟨_, _, _, D', rfl⟩)
  have ne : p.1 ≠ p.2 := fun q => by rw [q, g2] at g1; cases g1
  refine ⟨ρ, Ext.refl _ _, I.turn (k := s.toks + 1 + 1) (o' := .inst (setField l a d)) hp (.inr rfl) hs S ⟨(hs.2 _ ne).trans g1, _, _, D', ?_⟩, trivial, S.mono fun a z => .inr z⟩
  exact FRels.put N (DRel.step (s' := { s with heap := s.heap.update p.2 (Obj.putName (X.nm a) (PyData.keyHash X.w.params (X.nm a)) (.str (X.nm a) (s.toks + 1)) v), toks := s.toks + 1 + 1 }) I.stk S (Ext.refl _ _) hx) (FRels.step (s' := { s with heap := s.heap.update p.2 (Obj.putName (X.nm a) (PyData.keyHash X.w.params (X.nm a)) (.str (X.nm a) (s.toks + 1)) v), toks := s.toks + 1 + 1 }) I.stk S (Ext.refl _ _) F)
end
end Mine
end
section
namespace Mine
open PySem PySem.Calls PyProof.Rows PySem.W
structure Facts (X : Wd) (cG : Addr) (K : Frag) (T : Tab) : Prop where
  N : NamesOK X
  G : GlobOK X T
  V : GvOK X
  Y : NmOK X
  C : ClsOK X K T
  call : ∀ g, (decide (g ≤ 9) || (T.fn g).isSome) = true → CallOK X (X.gval g)
  callM : ∀ m f, T.meth m = some f → CallOK X (X.gval f)
noncomputable def SndC (X : Wd) (cG : Addr) (T : Tab) (n : Nat) : Prop := ∀ (fs : List Env) (A : Around) (ρ : Rho) (H : Hp) (s : Shared) (g : Nat) (vs : List V) (ws : List Value), AOK n A fs → Inv X fs ρ H s → VRels X s.heap ρ vs ws →
  JE X cG fs A (call (X.gval g) ws []) (VRel X) noOwn ρ (callF T n g vs H) s
noncomputable def SndA (X : Wd) (cG : Addr) (T : Tab) (n : Nat) : Prop := ∀ (fs : List Env) (A : Around) (ρ : Rho) (H : Hp) (s : Shared) (fv : V) (fw : Value) (vs : List V) (ws : List Value), AOK n A fs → Inv X fs ρ H s → VRel X s.heap ρ fv fw → VRels X s.heap ρ vs ws →
  JE X cG fs A (call fw ws []) (VRel X) noOwn ρ (applyV T n fv vs H) s
section
variable {X : Wd} {cG : Addr} {T : Tab} {K : Frag} {fs : List Env} {A : Around} {own : Addr → Prop} {s s' : Shared} {ρ ρ' : Rho} {env : Env} {ks : Ks} {loc : Loc} {H H' : Hp} {n m : Nat}
theorem VRels.dats {h : Heap} {vs : List V} : ∀ {ws : List Value} {ds : List D}, VRels X h ρ vs ws → dats vs = some ds → DRels X h ρ ds ws := by
  induction vs with
  | nil => intro ws ds z q; cases q; exact z
  | cons v r ih =>
    intro ws ds z q
    induction v with
    | loc => exact nomatch q
    | d x =>
      obtain ⟨l, h1, e⟩ := Option.map_eq_some_iff.mp (show (Mine.dats r).map (x :: ·) = some ds from q)
      obtain ⟨w, t, e2, a, b⟩ := z
      rw [← e]
      exact ⟨w, t, e2, a, ih b h1⟩
theorem Inv.new (I : Inv X fs ρ H s) {o : O} {h : Heap} {k : Nat} {p : Addr × Addr} (hp : s.heap.objs.size ≤ p.1 ∧ s.heap.objs.size ≤ p.2) (hk : ∀ a o, s.heap.get? a = some o → h.get? a = some o) (hs : s.heap.objs.size ≤ h.objs.size)
    (ho : ORel X h (ρ ++ [p]) p o) : Ext ρ s.heap.objs.size (ρ ++ [p]) ∧ Inv X fs (ρ ++ [p]) (H ++ [o]) { s with heap := h, toks := k } := by
  revert I hp hk hs ho; revert X fs s ρ H o h k p
  refine @(eps7 (P := ?P) (dX, dG, dS, dR, dH, do', dh) rfl ((?m : Pi7 ?P) _ _ _ _ _ _ _))
  intro X fs s ρ H o h k p I hp hk hs ho
  have E : Ext ρ s.heap.objs.size (ρ ++ [p]) := ⟨[p], rfl, fun q hq => by rw [List.mem_singleton.mp hq]; exact hp⟩
  have S : Step fs Wr0 s { s with heap := h, toks := k } := Step.keeps fs Wr0 s hk hs
  have low : ∀ (i : Nat) (q : Addr × Addr), ρ[i]? = some q → q.1 < s.heap.objs.size ∧ q.2 < s.heap.objs.size := fun i q hq => ⟨I.alive (Wr.of1 hq), I.alive (Wr.of2 hq)⟩
  refine ⟨E, ⟨by rw [List.length_append, List.length_append, I.rel.len]; rfl, fun i q o' hq ho' => ?_, fun i j q r ne hq hr => ?_, fun q hq => ?_⟩, (I.step0 S).base, (I.step0 S).stk, fun e he L hL z => ?_, Nat.le_trans I.sz hs⟩
  · by_cases hi : i < ρ.length
    · rw [List.getElem?_append_left hi] at hq
      rw [List.getElem?_append_left (by rw [← I.rel.len]; exact hi)] at ho'
      have z := I.rel.obj i q o' hq ho'
      induction o' with
      | list l =>
        obtain ⟨e, its, n, g, r⟩ := z
        exact ⟨e, its, n, hk _ _ g, DRels.step (s' := { s with heap := h, toks := k }) I.stk S.of0 E r⟩
      | inst l =>
        obtain ⟨g, es, n, g', r⟩ := z
        exact ⟨hk _ _ g, es, n, hk _ _ g', FRels.step (s' := { s with heap := h, toks := k }) I.stk S.of0 E r⟩
    · have hi' : i = ρ.length := by
        have := (List.getElem?_eq_some_iff.mp hq).1
        rw [List.length_append] at this
        simp at this; lia
      subst hi'
      rw [List.getElem?_append_right (Nat.le_refl _), Nat.sub_self] at hq
      rw [I.rel.len, List.getElem?_append_right (Nat.le_refl _), Nat.sub_self] at ho'
      cases hq; cases ho'
      exact ho
  · have key : ∀ (i j : Nat) (q r : Addr × Addr), i < j → (ρ ++ [p])[i]? = some q → (ρ ++ [p])[j]? = some r → q.1 ≠ r.1 ∧ q.1 ≠ r.2 ∧ q.2 ≠ r.1 ∧ q.2 ≠ r.2 := by
      intro i j q r hij hq hr
      have hj := (List.getElem?_eq_some_iff.mp hr).1
      rw [List.length_append, List.length_singleton] at hj
      by_cases hj' : j < ρ.length
      · rw [List.getElem?_append_left hj'] at hr
        rw [List.getElem?_append_left (Nat.lt_trans hij hj')] at hq
        exact I.rel.apart i j q r (Nat.ne_of_lt hij) hq hr
      · have hi' : i < ρ.length := by lia
        have ej : j = ρ.length := by lia
        subst ej
        rw [List.getElem?_append_left hi'] at hq
        rw [List.getElem?_append_right (Nat.le_refl _), Nat.sub_self] at hr
        cases hr
        refine E0A2 (low i q hq) fun l1 l2 => ?_
        exact ⟨Nat.ne_of_lt (Nat.lt_of_lt_of_le l1 hp.1), Nat.ne_of_lt (Nat.lt_of_lt_of_le l1 hp.2), Nat.ne_of_lt (Nat.lt_of_lt_of_le l2 hp.1), Nat.ne_of_lt (Nat.lt_of_lt_of_le l2 hp.2)⟩
    rcases Nat.lt_or_gt_of_ne ne with h | h
    · exact key i j q r h hq hr
    · refine E0A4 (key j i r q h hr hq) fun a b c d => ?_
      exact ⟨Ne.symm a, Ne.symm c, Ne.symm b, Ne.symm d⟩
  · rcases List.mem_append.mp hq with q' | q'
    · exact I.rel.above q q'
    · rw [List.mem_singleton.mp q']
      exact ⟨Nat.le_trans I.sz hp.1, Nat.le_trans I.sz hp.2⟩
  · rcases Wr.app.mp z with z | ⟨q, hq, z⟩
    · exact I.off e he L hL z
    · obtain ⟨_, L', o, es, n, f, _, g, _⟩ := I.stk e he
      rw [f] at hL
      cases hL
      have := Heap.lt_size g
      rw [List.mem_singleton.mp hq] at z
      rcases z with rfl | rfl
      · exact absurd hp.1 (Nat.not_le.mpr this)
      · exact absurd hp.2 (Nat.not_le.mpr this)
theorem tup_snd (hE : SndE X cG T n) (hA : AOK n A fs) (hV : EnvOK X env ks) (a : At X fs env ks loc ρ H s) (es : List Expr) (c : Nat) (p : Pos) (hs : es.any isStar = false) :
    JE X cG fs A (eval (.Tuple es c p) env) (VRel X) noOwn ρ ((evalL (evalE T n ks loc) (es.map (erE X.f m)) H).bind fun vs H => match dats vs with
      | some ds => R.guard (decide (ds.length ≤ 1000)) (.ok (.d (.tup ds)) H)
      | Option.none => .bad) s := by
  rw [arm_eval_Tuple]
  refine JE.stand (JE.bind (spliced_snd hE hA hV p es hs a) fun vs H' ws s' ρ' x I R S => ?_)
  split
  · rename_i ds hd
    refine JE.guard fun hz => JE.of0 I (wpAny_newTuple ?_ ?_)
    · exact newT (fs := fs) I (R.dats hd) s'.toks
    · have := (R.dats hd).length
      have := of_decide_eq_true hz
      rw [sizeLine_eq]; lia
  · trivial
theorem list_snd (hE : SndE X cG T n) (hA : AOK n A fs) (hV : EnvOK X env ks) (a : At X fs env ks loc ρ H s) (mu : Bool) (es : List Expr) (p : Pos) (hs : es.any isStar = false) :
    JE X cG fs A (eval (.List es p) env) (VRel X) noOwn ρ ((evalL (evalE T n ks loc) (es.map (erE X.f m)) H).bind fun vs H => match dats vs with
      | some ds => R.guard (decide (ds.length ≤ 1000)) (if mu then .ok (.loc H.length) (H ++ [.list ds]) else .ok (.d (.list ds)) H)
      | Option.none => .bad) s := by
  rw [arm_eval_List]
  refine JE.stand (JE.bind (spliced_snd hE hA hV p es hs a) fun vs H' ws s' ρ' x I R S => ?_)
  split
  · rename_i ds hd
    refine JE.guard fun hz => ?_
    have hl := (R.dats hd).length
    have hz' := of_decide_eq_true hz
    cases mu
    · refine JE.of0 I (wpAny_newList ?_ (by rw [sizeLine_eq]; lia))
      exact newLs (fs := fs) I (R.dats hd) s'.toks 0
    · refine JE.ok (wpAny_newList ?_ (by rw [sizeLine_eq]; lia))
      have S' := Step.push fs Wr0 s' (lstO ws.toArray 0) s'.toks
      have E' : Ext ρ' s'.heap.objs.size (ρ' ++ [(s'.heap.objs.size, s'.heap.objs.size)]) := ⟨[_], rfl, fun q hq => by rw [List.mem_singleton.mp hq]; exact ⟨Nat.le_refl _, Nat.le_refl _⟩⟩
      obtain ⟨E, I'⟩ := I.new (o := .list ds) (h := s'.heap.push (lstO ws.toArray 0)) (k := s'.toks) (p := (s'.heap.objs.size, s'.heap.objs.size)) ⟨Nat.le_refl _, Nat.le_refl _⟩ (fun a o e => Heap.get?_push_of_some _ e) (by rw [Heap.size_push]; exact Nat.le_succ _)
        ⟨rfl, ws.toArray, 0, Heap.get?_push_size _ rfl, by
          have := DRels.step (s' := { s' with heap := s'.heap.push (lstO ws.toArray 0), toks := s'.toks }) I.stk S'.of0 E' (R.dats hd)
          simpa using this⟩
      exact ⟨_, E, I', ⟨_, by rw [List.getElem?_append_right (by rw [I.rel.len]; exact Nat.le_refl _), I.rel.len, Nat.sub_self]; rfl, rfl⟩, S'.of0⟩
  · trivial
end
end Mine
end
section
namespace Mine
open PySem PySem.Calls PyProof.Rows PySem.W
noncomputable def exprSp : Expr → Bool
  | .UnaryOp .Not .. => true
  | .BoolOp .. => true
  | .IfExp .. => true
  | .Compare .. => true
  | _ => false
noncomputable def exSp : Ex → Bool
  | .not .. => true
  | .bop .. => true
  | .cmp .. => true
  | .ite .. => true
  | _ => false
theorem exSp_opt {α : Type} {o : Option α} {k : α → Ex} (h : ∀ a, exSp (k a) = false) : exSp (optE o k) = false := by
  induction o with
  | none => rfl
  | some a => exact h a
theorem exSp_gu {c : Bool} {x : Ex} (h : exSp x = false) : exSp (guE c x) = false := by cases c; exact h; rfl
theorem exSp_gt {c : Bool} {x : Ex} (h : exSp x = false) : exSp (guT c x) = false := by cases c; rfl; exact h
theorem erE_plain (f : Str → Option Nat) (m : Nat) (e : Expr) (h : exprSp e = false) : exSp (erE f m e) = false := by
  cases m with
  | zero => rfl
  | succ m =>
  cases e with
  | Constant c k p => cases c <;> rfl
  | Name x p => exact exSp_opt fun _ => rfl
  | BoolOp => exact nomatch h
  | UnaryOp op e p => cases op <;> first | rfl | exact nomatch h
  | IfExp => exact nomatch h
  | Compare => exact nomatch h
  | Tuple es c p => exact exSp_gu rfl
  | List es p => exact exSp_gu rfl
  | Call g args kws p =>
    refine exSp_gt (exSp_gu ?_)
    cases nameP g with
    | none => exact exSp_opt fun _ => exSp_opt fun _ => exSp_gt (exSp_gt (exSp_gt rfl))
    | some v => exact exSp_opt fun _ => rfl
  | Attribute o x p => exact exSp_opt fun _ => exSp_opt fun _ => rfl
  | Subscript o i p =>
    show exSp ((slP i).elim _ _) = false
    cases slP i with
    | none => rfl
    | some v => exact exSp_opt fun _ => exSp_gt rfl
  | ListComp elt gens sc p => exact exSp_opt fun _ => exSp_gt (exSp_opt fun _ => exSp_opt fun _ => exSp_gu rfl)
  | _ => rfl
section
variable {X : Wd} {cG : Addr} {T : Tab} {K : Frag} {fs : List Env} {A : Around} {own : Addr → Prop} {s s' : Shared} {ρ ρ' : Rho} {env : Env} {ks : Ks} {loc : Loc} {H H' : Hp} {n m : Nat}
theorem JE.optE {α : Type} {t : Sem Value} {o : Option α} {k : α → Ex} (h : ∀ a, o = some a → JE X cG fs A t (VRel X) noOwn ρ (evalE T (n + 1) ks loc (k a) H) s) : JE X cG fs A t (VRel X) noOwn ρ (evalE T (n + 1) ks loc (Mine.optE o k) H) s := by
  induction o with
  | none => trivial
  | some a => exact h a rfl
theorem JE.optP {α : Type} {P : α → Prop} {t : Sem Value} {o : Option (Subtype P)} {k : Subtype P → Ex} (h : ∀ a p, JE X cG fs A t (VRel X) noOwn ρ (evalE T (n + 1) ks loc (k ⟨a, p⟩) H) s) : JE X cG fs A t (VRel X) noOwn ρ (evalE T (n + 1) ks loc (Mine.optE o k) H) s :=
  JE.optE fun a _ => h a.1 a.2
theorem JE.guE {c : Bool} {t : Sem Value} {x : Ex} (h : c = false → JE X cG fs A t (VRel X) noOwn ρ (evalE T (n + 1) ks loc x H) s) : JE X cG fs A t (VRel X) noOwn ρ (evalE T (n + 1) ks loc (Mine.guE c x) H) s := by
  induction c with
  | true => trivial
  | false => exact h rfl
theorem JE.guT {c : Bool} {t : Sem Value} {x : Ex} (h : c = true → JE X cG fs A t (VRel X) noOwn ρ (evalE T (n + 1) ks loc x H) s) : JE X cG fs A t (VRel X) noOwn ρ (evalE T (n + 1) ks loc (Mine.guT c x) H) s := by
  induction c with
  | false => trivial
  | true => exact h rfl
theorem isTrue_plain (e : Expr) (h : exprSp e = false) (env : Env) (whole : Sem Value) : isTrue e env whole = (whole >>= fun v => standAt e.pos >>= fun _ => holding [v] (truthy v)) := by
  cases e <;> first | rfl | (cases h; done) | skip
  rename_i op _ _
  cases op <;> first | rfl | (cases h; done)
theorem testE_plain (e : Ex) (h : exSp e = false) : testE T (n + 1) ks loc e H = (evalE T n ks loc e H).bind fun v H => boolV v H := by
  cases e <;> first | rfl | (cases h; done)
theorem callable_is {v : V} (h : callable T v = true) : ∃ g, v = .d (.gv g) ∧ (decide (g ≤ 9) || (T.fn g).isSome) = true := by
  induction v with
  | loc i => cases h
  | d x =>
    cases x with
    | gv g => exact ⟨g, rfl, h⟩
    | _ => cases h
theorem call_snd (Fc : Facts X cG K T) (hE : SndE X cG T n) (hP : SndA X cG T n) (hA : AOK n A fs) (hV : EnvOK X env ks) (a : At X fs env ks loc ρ H s) (x : Str) (p1 : Pos) (g : Nat) (hx : X.f x = some g) (args : List Expr) (pos : Pos) (hs : args.any isStar = false) :
    JE X cG fs A (eval (.Call (.Name x p1) args [] pos) env) (VRel X) noOwn ρ (evalE T (n + 1) ks loc (.call g (args.map (erE X.f m))) H) s := by
  show JE X cG fs A (eval (.Name x p1) env >>= fun f => callWith pos f [] (backTo pos (starEach args env)) []) _ _ _ ((nmV T ks loc g H).bind fun fv H => R.guard (callable T fv) ((evalL (evalE T n ks loc) (args.map (erE X.f m)) H).bind fun vs H => applyV T n fv vs H)) s
  refine JE.bind (name_snd Fc.N Fc.G hV a hx) fun fv H1 fw s1 ρ1 x1 I1 R1 S1 => JE.guard fun hc => ?_
  have a1 := a.next x1 I1 S1
  refine E1A2 (callable_is hc) fun g' e hc => ?_; subst e
  have e : fw = X.gval g' := VRel.gv R1
  refine callW_snd hE hA hV a1 (by rw [e]; exact Fc.call g' hc) pos pos [] args hs fun vs H2 ws s2 ρ2 x2 a2 R2 S2 => ?_
  exact hP fs A ρ2 H2 s2 _ fw vs ws hA a2.inv (a1.val x2 S2 R1) R2
theorem meth_snd (Fc : Facts X cG K T) (hE : SndE X cG T n) (hC : SndC X cG T n) (hA : AOK n A fs) (hV : EnvOK X env ks) (a : At X fs env ks loc ρ H s) (o : Expr) (x : Str) (apos pos : Pos) (g : Nat) (hx : X.f x = some g) (args : List Expr)
    (ho : attrO o = true) (hs : args.any isStar = false) (hp : (apos.endLine == pos.line) = true) (hl : args.length < 20) :
    JE X cG fs A (eval (.Call (.Attribute o x apos) args [] pos) env) (VRel X) noOwn ρ (evalE T (n + 1) ks loc (.meth (erE X.f m o) g (args.map (erE X.f m))) H) s := by
  revert Fc hE hC hA hV a hx ho hs hp hl; revert X cG T K fs A s ρ env ks loc H n m o x apos pos g args
  refine @(eps19 (P := ?P) (dX, dN, dT, df, dG, dA, dS, dR, dE, dK, dL, dH, dN, dN, de, ds, dp, dp, dN) rfl ((?m : Pi19 ?P) _ _ _ _ _ _ _ _ _ _ _ _ _ _ _ _ _ _ _))
  intro X cG T K fs A s ρ env ks loc H n m o x apos pos g args Fc hE hC hA hV a hx ho hs hp hl
  rw [meth_tree ho hs hp hl]
  have ex := Fc.N.inj x g hx
  refine JE.bind (hE fs A env ks loc ρ H s m o hA hV a) fun ov H1 ow s1 ρ1 x1 I1 R1 S1 => JE.stand ?_
  have a1 := a.next x1 I1 S1
  induction ov with
  | loc i =>
    refine E1A2 (R1) fun p hp hz2 => ?_; subst hz2; try clear R1
    dsimp only
    cases hi : H1[i]? with
    | none => trivial
    | some o1 =>
      induction o1 with
      | list l =>
        show JE X cG fs A _ _ _ _ (if g = 11 then _ else _) _
        by_cases hm : g = 11
        · rw [if_pos hm]
          subst hm
          obtain ⟨e, its, k, g1, r1⟩ := I1.rel.obj i p _ hp hi
          rw [ex, Fc.Y.n11]
          refine JE.tree ?_ fun Q E z => wpAny_bind (wpAny_holding (getMethod_list_append g1 rfl rfl z))
          refine callW_snd hE hA hV a1 (CallOK.builtin X _) pos pos _ args hs fun vs H2 ws s2 ρ2 x2 a2 R2 S2 => ?_
          rcases vs with _ | ⟨v, _ | ⟨v2, r⟩⟩
          · trivial
          · induction v with
            | loc => trivial
            | d xd =>
              dsimp only
              cases hi2 : H2[i]? with
              | none => trivial
              | some o2 =>
                induction o2 with
                | inst => trivial
                | list l' =>
                  refine E1A2 (R2.one) fun w hz1 hx => ?_; subst hz1
                  refine JE.guard fun hz => ?_
                  exact append_snd a2.inv (x2.get hp) hi2 hx (of_decide_eq_true hz)
          · cases v <;> trivial
        · rw [if_neg hm]; trivial
      | inst l =>
        dsimp only
        cases hm : T.meth g with
        | none => trivial
        | some f =>
          cases hl' : l.lookup g with
          | some => trivial
          | none =>
            rw [ex]
            refine JE.tree ?_ fun Q E z => wpAny_bind (wpAny_holding (method_any Fc.N Fc.C I1 hp hi hl' hm z))
            refine callW_snd hE hA hV a1 (Fc.callM _ _ hm) pos pos _ args hs fun vs H2 ws s2 ρ2 x2 a2 R2 S2 => ?_
            exact hC fs A ρ2 H2 s2 f _ _ hA a2.inv ⟨_, _, rfl, ⟨p, x2.get hp, rfl⟩, R2⟩
  | d xd =>
   cases xd with
   | str str =>
    refine E1A1 (VRel.str R1) fun t hz1 => ?_; subst hz1
    refine JE.guard fun hg => ?_
    have fin : ∀ id : String, (∀ (Q : Value × List Value → Shared → Prop) (E : Value → Shared → Prop), Q (.builtin id, [.str str t]) s1 → wpAny X.M A (getMethod (.str str t) x (do return (← importBound o env).getD true)) Q E s1) →
        ((g = 12 ∧ id = "str.join") ∨ (g = 13 ∧ id = "str.isalpha") ∨ (g = 14 ∧ id = "str.split")) →
        JE X cG fs A (holding [.str str t] (getMethod (.str str t) x (do return (← importBound o env).getD true)) >>= fun fx => callWith pos fx.1 fx.2 (backTo pos (starEach args env)) []) (VRel X) noOwn ρ1
          ((evalL (evalE T n ks loc) (args.map (erE X.f m)) H1).bind fun vs H => strMeth g str vs H) s1 := by
      intro id hm hid
      refine JE.tree ?_ fun Q E z => wpAny_bind (wpAny_holding (hm _ _ z))
      refine callW_snd hE hA hV a1 (CallOK.builtin X _) pos pos _ args hs fun vs H2 ws s2 ρ2 x2 a2 R2 S2 => ?_
      exact strMeth_snd Fc.Y a2.inv g R2 id hid
    simp only [Bool.or_eq_true, beq_iff_eq] at hg
    rcases hg with (rfl | rfl) | rfl
    · refine fin "str.join" (fun Q E z => ?_) (.inl ⟨rfl, rfl⟩)
      rw [ex, Fc.Y.n12]
      exact GM.join z
    · refine fin "str.isalpha" (fun Q E z => ?_) (.inr (.inl ⟨rfl, rfl⟩))
      rw [ex, Fc.Y.n13]
      exact GM.isalpha z
    · refine fin "str.split" (fun Q E z => ?_) (.inr (.inr ⟨rfl, rfl⟩))
      rw [ex, Fc.Y.n14]
      exact GM.split z
   | _ => trivial
theorem attrE_snd (Fc : Facts X cG K T) (hE : SndE X cG T n) (hA : AOK n A fs) (hV : EnvOK X env ks) (a : At X fs env ks loc ρ H s) (y : Str) (yp : Pos) (x : Str) (pos : Pos) (g : Nat) (hx : X.f x = some g) :
    JE X cG fs A (eval (.Attribute (.Name y yp) x pos) env) (VRel X) noOwn ρ (evalE T (n + 1) ks loc (.attr (erE X.f m (.Name y yp)) g) H) s := by
  rw [arm_eval_Attribute, attrBase rfl]
  have ex := Fc.N.inj x g hx
  refine JE.bind (hE fs A env ks loc ρ H s m _ hA hV a) fun ov H1 ow s1 ρ1 x1 I1 R1 S1 => JE.stand ?_
  induction ov with
  | d => trivial
  | loc i =>
    refine E1A2 (R1) fun p hp hz2 => ?_; subst hz2; try clear R1
    dsimp only
    cases hi : H1[i]? with
    | none => trivial
    | some o1 =>
      induction o1 with
      | list => trivial
      | inst l =>
        dsimp only
        cases hd : l.lookup g with
        | none => trivial
        | some d =>
          refine JE.guard fun hg => ?_
          rw [ex]
          refine JE.tree (JE.holding (attr_snd (b := true) Fc.N Fc.C I1 hp hi hd hg)) fun Q E z => wpAny_bind (wpAny_mono z (fun r s' q => ?_) fun _ _ q => q)
          exact wpAny_bind (wpAny_pure (wpAny_pure q))
end
end Mine
end
section
namespace Mine
open PySem PySem.Calls PyProof.Rows PySem.W
section
variable {X : Wd} {cG : Addr} {T : Tab} {K : Frag} {fs : List Env} {A : Around} {own : Addr → Prop} {s s' : Shared} {ρ ρ' : Rho} {env : Env} {ks : Ks} {loc : Loc} {H H' : Hp} {n m : Nat}
theorem binE_snd (hE : SndE X cG T n) (hA : AOK n A fs) (hV : EnvOK X env ks) (a : At X fs env ks loc ρ H s) (l : Expr) (op : Operator) (r : Expr) (pos : Pos) :
    JE X cG fs A (eval (.BinOp l op r pos) env) (VRel X) noOwn ρ (evalE T (n + 1) ks loc (.bin op (erE X.f m l) (erE X.f m r)) H) s := by
  rw [arm_eval_BinOp]
  refine JE.bind (hE fs A env ks loc ρ H s m l hA hV a) fun va H1 wa s1 ρ1 x1 I1 R1 S1 => ?_
  have a1 := a.next x1 I1 S1
  refine JE.bind (JE.holding (hE fs A env ks loc ρ1 H1 s1 m r hA hV a1)) fun vb H2 wb s2 ρ2 x2 I2 R2 S2 => JE.stand (JE.operate ?_)
  exact bin_snd I2 op (a1.val x2 S2 R1) R2
theorem notE_snd (hE : SndE X cG T n) (hA : AOK n A fs) (hV : EnvOK X env ks) (a : At X fs env ks loc ρ H s) (e : Expr) (pos : Pos) :
    JE X cG fs A (eval (.UnaryOp .Not e pos) env) (VRel X) noOwn ρ (evalE T (n + 1) ks loc (.not (erE X.f m e)) H) s := by
  rw [arm_eval_UnaryOp]
  refine JE.bind (hE fs A env ks loc ρ H s m e hA hV a) fun va H1 wa s1 ρ1 x1 I1 R1 S1 => JE.stand (JE.holding ?_)
  refine JE.tree (JE.map (f := fun b => Value.bool (!b)) (g := fun b => V.d (.bool !b)) (Rel' := VRel X) (truthy_snd I1 R1) fun h ρ b a e => by cases e; rfl) fun Q E z => ?_
  refine PyProof.Rows.not_of ?_
  intro Γ p hΓ
  have := z Γ p hΓ
  rw [Sem.wp_bind'] at this
  exact this
theorem negE_snd (hE : SndE X cG T n) (hA : AOK n A fs) (hV : EnvOK X env ks) (a : At X fs env ks loc ρ H s) (e : Expr) (pos : Pos) :
    JE X cG fs A (eval (.UnaryOp .USub e pos) env) (VRel X) noOwn ρ (evalE T (n + 1) ks loc (.neg (erE X.f m e)) H) s := by
  rw [arm_eval_UnaryOp]
  refine JE.bind (hE fs A env ks loc ρ H s m e hA hV a) fun va H1 wa s1 ρ1 x1 I1 R1 S1 => JE.stand (JE.holding ?_)
  induction va with
  | loc => trivial
  | d x =>
    cases x with
    | int i =>
      refine E1A1 (VRel.int R1) fun t hz1 => ?_; subst hz1
      exact JE.of0 I1 (neg_int ⟨Step.tok _ _ _ _, _, rfl⟩)
    | _ => trivial
theorem iteE_snd (hE : SndE X cG T n) (hT : SndT X cG T n) (hA : AOK n A fs) (hV : EnvOK X env ks) (a : At X fs env ks loc ρ H s) (t b o : Expr) (pos : Pos) :
    JE X cG fs A (eval (.IfExp t b o pos) env) (VRel X) noOwn ρ (evalE T (n + 1) ks loc (.ite (erE X.f m t) (erE X.f m b) (erE X.f m o)) H) s := by
  rw [arm_eval_IfExp]
  refine JE.bind (hT fs A env ks loc ρ H s m t hA hV a) fun c H1 wc s1 ρ1 x1 I1 R1 S1 => ?_
  have a1 := a.next x1 I1 S1
  cases R1
  cases c
  · exact hE fs A env ks loc ρ1 H1 s1 m o hA hV a1
  · exact hE fs A env ks loc ρ1 H1 s1 m b hA hV a1
theorem marked_plain (op : CmpOp) (r : Expr) (t : Sem Value) (h : isSetE r = false) : markedEach [op] [r] [t] = [t] := by
  cases r <;> first | rfl | cases h
theorem cmpE_snd (hE : SndE X cG T n) (hA : AOK n A fs) (hV : EnvOK X env ks) (a : At X fs env ks loc ρ H s) (l : Expr) (op : CmpOp) (r : Expr) (pos : Pos) (hr : isSetE r = false) :
    JE X cG fs A (eval (.Compare l [op] [r] pos) env) (VRel X) noOwn ρ (evalE T (n + 1) ks loc (.cmp op (erE X.f m l) (erE X.f m r)) H) s := by
  rw [arm_eval_Compare]
  refine JE.bind (hE fs A env ks loc ρ H s m l hA hV a) fun va H1 wa s1 ρ1 x1 I1 R1 S1 => ?_
  have a1 := a.next x1 I1 S1
  rw [show evalEach [r] env = [eval r env] from rfl, marked_plain op r _ hr]
  refine JE.bind (JE.holding (hE fs A env ks loc ρ1 H1 s1 m r hA hV a1)) fun vb H2 wb s2 ρ2 x2 I2 R2 S2 => JE.stand (JE.operate ?_)
  have z := cmp_snd (cG := cG) (own := noOwn) hA I2 op (a1.val x2 S2 R1) R2
  cases q : optR (cmpV op va vb H2) H2 with
  | bad => trivial
  | ok c H3 => rw [q] at z; exact JE.rel (Rel := fun h ρ (b : V) a => ∃ c, b = .d (.bool c) ∧ VB h ρ c a) (wpAny_mono z (fun a s' ⟨ρ', e, I, R, S⟩ => ⟨ρ', e, I, ⟨c, rfl, R⟩, S⟩) fun _ _ x => x) fun h ρ b a ⟨c, e, R⟩ => by subst e; exact R
  | exc m sp H3 => cases qc : cmpV op va vb H2 <;> rw [qc] at q <;> cases q
theorem cmpT_snd (hE : SndE X cG T n) (hA : AOK n A fs) (hV : EnvOK X env ks) (a : At X fs env ks loc ρ H s) (l : Expr) (op : CmpOp) (r : Expr) (pos : Pos) (hr : isSetE r = false) (w : Sem Value) :
    JE X cG fs A (isTrue (.Compare l [op] [r] pos) env w) BRel noOwn ρ (testE T (n + 1) ks loc (.cmp op (erE X.f m l) (erE X.f m r)) H) s := by
  show JE X cG fs A (eval l env >>= fun v => testChain pos v [op] (markedEach [op] [r] (evalEach [r] env))) _ _ _ _ _
  refine JE.bind (hE fs A env ks loc ρ H s m l hA hV a) fun va H1 wa s1 ρ1 x1 I1 R1 S1 => ?_
  have a1 := a.next x1 I1 S1
  rw [show evalEach [r] env = [eval r env] from rfl, marked_plain op r _ hr]
  refine JE.bind (JE.holding (hE fs A env ks loc ρ1 H1 s1 m r hA hV a1)) fun vb H2 wb s2 ρ2 x2 I2 R2 S2 => JE.stand ?_
  have z := cmp_snd (cG := cG) (own := noOwn) hA I2 op (a1.val x2 S2 R1) R2
  have e : optR (cmpV op va vb H2) H2 = (optR (cmpV op va vb H2) H2).bind fun c H => .ok c H := by cases optR (cmpV op va vb H2) H2 <;> rfl
  rw [e]
  refine JE.bind (JE.operate z) fun c H3 wc s3 ρ3 x3 I3 R3 S3 => JE.holding ?_
  exact truthy_snd (v := .d (.bool c)) I3 R3
theorem idxE_snd (hE : SndE X cG T n) (hA : AOK n A fs) (hV : EnvOK X env ks) (a : At X fs env ks loc ρ H s) (o i : Expr) (pos : Pos) (hi : slP i = none) :
    JE X cG fs A (eval (.Subscript o i pos) env) (VRel X) noOwn ρ (evalE T (n + 1) ks loc (.idx (erE X.f m o) (erE X.f m i)) H) s := by
  rw [arm_eval_Subscript]
  refine JE.bind (hE fs A env ks loc ρ H s m o hA hV a) fun va H1 wa s1 ρ1 x1 I1 R1 S1 => ?_
  have a1 := a.next x1 I1 S1
  refine JE.bind (JE.holding (hE fs A env ks loc ρ1 H1 s1 m i hA hV a1)) fun vb H2 wb s2 ρ2 x2 I2 R2 S2 => JE.stand ?_
  exact idx_snd I2 o i (fun o' i' => by cases i <;> first | rfl | cases hi) (a1.val x2 S2 R1) R2
theorem slE_snd (hE : SndE X cG T n) (hA : AOK n A fs) (hV : EnvOK X env ks) (a : At X fs env ks loc ρ H s) (o lo : Expr) (sp pos : Pos) :
    JE X cG fs A (eval (.Subscript o (.Slice (some lo) Option.none Option.none sp) pos) env) (VRel X) noOwn ρ (evalE T (n + 1) ks loc (.sl (erE X.f m o) (erE X.f m lo)) H) s := by
  rw [arm_eval_Subscript]
  refine JE.bind (hE fs A env ks loc ρ H s m o hA hV a) fun va H1 wa s1 ρ1 x1 I1 R1 S1 => ?_
  have a1 := a.next x1 I1 S1
  refine JE.bind (JE.holding (slice_snd hE hA hV a1 lo sp)) fun vb H2 wb s2 ρ2 x2 I2 R2 S2 => JE.stand ?_
  exact sl_snd I2 o (a1.val x2 S2 R1) R2
noncomputable def SndL (X : Wd) (cG : Addr) (T : Tab) (n : Nat) : Prop := ∀ (fs : List Env) (A : Around) (env : Env) (ks : Ks) (loc : Loc) (ρ : Rho) (H : Hp) (s : Shared) (m : Nat) (elt : Expr) (tg iter : Expr) (conds : List Expr) (sc : Scope) (p : Pos) (t : Tg) (cks : Ks), AOK (n + 1) A fs → EnvOK X env ks → At X fs env ks loc ρ H s →
  rTg X.f tg = some t → rScope X.f sc = some cks → isSetE iter = false →
  JE X cG fs A (eval (.ListComp elt [⟨tg, iter, conds, 0⟩] sc p) env) (VRel X) noOwn ρ (evalE T (n + 1) ks loc (.comp (erE X.f m elt) t (erE X.f m iter) (conds.map (erE X.f m)) cks) H) s
theorem evalE_step (Fc : Facts X cG K T) (hE : SndE X cG T n) (hT : SndT X cG T n) (hC : SndC X cG T n) (hP : SndA X cG T n) (hL : SndL X cG T n) : SndE X cG T (n + 1) := by
  intro fs A env ks loc ρ H s m e hA hV a
  revert Fc hE hT hC hP hL hA hV a; revert X cG T K n fs A env ks loc ρ H s m e
  refine @(eps13 (P := ?P) (dX, dN, dT, df, dN, dG, dA, dE, dK, dL, dR, dH, dS) rfl ((?m : Pi13 ?P) _ _ _ _ _ _ _ _ _ _ _ _ _))
  intro X cG T K n fs A env ks loc ρ H s m e Fc hE hT hC hP hL hA hV a
  have hA' := hA.le (Nat.le_succ n)
  cases m with
  | zero => trivial
  | succ m =>
  have bad : ∀ {t : Sem Value}, JE X cG fs A t (VRel X) noOwn ρ (evalE T (n + 1) ks loc .bad H) s := trivial
  cases e with
  | Constant c k p =>
    induction c with
    | none => exact const_snd a.inv _ _ _ _ (.inl ⟨rfl, rfl⟩)
    | bool => exact const_snd a.inv _ _ _ _ (.inr (.inl ⟨_, rfl, rfl⟩))
    | int => exact const_snd a.inv _ _ _ _ (.inr (.inr (.inl ⟨_, rfl, rfl⟩)))
    | str => exact const_snd a.inv _ _ _ _ (.inr (.inr (.inr ⟨_, rfl, rfl⟩)))
    | _ => exact bad
  | Name x p => exact JE.optE fun _ hx => name_snd Fc.N Fc.G hV a hx
  | BoolOp op es p =>
    cases op with
    | And => exact boolOp_snd hE hA' hV _ true _ a
    | Or => exact boolOp_snd hE hA' hV _ false _ a
  | UnaryOp op e p =>
    cases op with
    | Not => exact notE_snd hE hA' hV a _ _
    | USub => exact negE_snd hE hA' hV a _ _
    | _ => exact bad
  | BinOp => exact binE_snd hE hA' hV a _ _ _ _
  | IfExp => exact iteE_snd hE hT hA' hV a _ _ _ _
  | Tuple es c p => exact JE.guE fun h => tup_snd hE hA' hV a _ _ _ h
  | List es p => exact JE.guE fun h => list_snd hE hA' hV a false _ _ h
  | Compare l ops rs p =>
    refine JE.optP fun op e1 => JE.optP fun r e2 => JE.guE fun h => ?_
    subst e1 e2
    exact cmpE_snd hE hA' hV a _ _ _ _ h
  | Call g args kws p =>
    refine JE.guT fun hk => JE.guE fun h => ?_
    rw [List.isEmpty_iff.mp hk]
    cases nameP g with
    | some v =>
      refine JE.optE fun k hx => ?_
      refine v.2.elim fun p1 e => ?_
      rw [e]
      exact call_snd Fc hE hP hA' hV a _ _ _ hx _ _ h
    | none =>
      refine JE.optP fun v e => JE.optE fun k hx => JE.guT fun h1 => JE.guT fun h2 => JE.guT fun h3 => ?_
      subst e
      exact meth_snd Fc hE hC hA' hV a _ _ _ _ _ hx _ h3 h h1 (of_decide_eq_true h2)
  | Attribute o x p =>
    refine JE.optE fun k hx => JE.optP fun v e => e.elim fun q e => ?_
    subst e
    exact attrE_snd Fc hE hA' hV a _ _ _ _ _ hx
  | Subscript o i p =>
    show JE X cG fs A _ _ _ ρ (evalE T (n + 1) ks loc ((slP i).elim _ _) H) s
    cases hi : slP i with
    | none => exact idxE_snd hE hA' hV a _ _ _ hi
    | some v =>
      refine JE.optE fun lo h1 => JE.guT fun h2 => ?_
      have h2 := Bool.and_eq_true_iff.mp h2
      refine v.2.elim fun q e => ?_
      have e : i = .Slice (some lo) none none q := by rw [e, h1, Option.isNone_iff_eq_none.mp h2.1, Option.isNone_iff_eq_none.mp h2.2]
      rw [e]
      exact slE_snd hE hA' hV a _ _ _ _
  | ListComp elt gens sc p =>
    refine JE.optP fun g e => JE.guT fun hz => JE.optE fun t h1 => JE.optE fun ks' h2 => JE.guE fun h => ?_
    subst e
    obtain ⟨tg, iter, conds, z⟩ := g
    have hz : z = 0 := eq_of_beq hz
    subst hz
    exact hL fs A env ks loc ρ H s m _ _ _ _ _ _ _ _ hA hV a h1 h2 h
  | _ => exact bad
theorem testE_bad : testE T (n + 1) ks loc .bad H = .bad := by cases n <;> rfl
theorem testE_step (hE : SndE X cG T n) (hT : SndT X cG T n) : SndT X cG T (n + 1) := by
  intro fs A env ks loc ρ H s m e hA hV a
  revert hE hT hA hV a; revert X cG T n fs A env ks loc ρ H s m e
  refine @(eps13 (P := ?P) (dX, dN, dT, dN, dG, dA, dE, dK, dL, dR, dH, dS, dN) rfl ((?m : Pi13 ?P) _ _ _ _ _ _ _ _ _ _ _ _ _))
  intro X cG T n fs A env ks loc ρ H s m e hE hT hA hV a
  have hA' := hA.le (Nat.le_succ n)
  cases q : exprSp e with
  | false =>
    rw [isTrue_plain e q, testE_plain _ (erE_plain X.f m e q)]
    refine JE.bind (hE fs A env ks loc ρ H s m e hA' hV a) fun v H' w s' ρ' x I R S => JE.stand (JE.holding (truthy_snd I R))
  | true =>
    cases m with
    | zero => rw [show erE X.f 0 e = .bad from rfl, testE_bad]; trivial
    | succ m =>
    cases e <;> first | (cases q; done) | skip
    · rename_i op es p
      cases op
      · exact allTrue_snd hT hA' hV true es a
      · exact allTrue_snd hT hA' hV false es a
    · rename_i op e p
      cases op <;> first | (cases q; done) | skip
      show JE X cG fs A (isTrue e env (eval e env) >>= fun b => pure (!b)) _ _ _ _ _
      exact JE.map (f := fun b => !b) (g := fun b => !b) (hT fs A env ks loc ρ H s m e hA' hV a) fun h ρ b a e => by cases e; rfl
    · rename_i t b o p
      show JE X cG fs A (isTrue t env (eval t env) >>= fun c => if c then isTrue b env (eval b env) else isTrue o env (eval o env)) _ _ _ ((testE T n ks loc (erE X.f m t) H).bind fun c H => if c then testE T n ks loc (erE X.f m b) H else testE T n ks loc (erE X.f m o) H) _
      refine JE.bind (hT fs A env ks loc ρ H s m t hA' hV a) fun c H1 wc s1 ρ1 x1 I1 R1 S1 => ?_
      have a1 := a.next x1 I1 S1
      cases R1
      cases c
      · exact hT fs A env ks loc ρ1 H1 s1 m o hA' hV a1
      · exact hT fs A env ks loc ρ1 H1 s1 m b hA' hV a1
    · rename_i l ops rs p
      show JE X cG fs A _ _ _ ρ (testE T (n + 1) ks loc (optE (oneP ops) fun op => optE (oneP rs) fun r => guE (isSetE r.1) _) H) s
      have tbad : ∀ {t : Sem Bool}, JE X cG fs A t BRel noOwn ρ (testE T (n + 1) ks loc .bad H) s := fun {t} => by rw [testE_bad]; exact True.intro
      cases oneP ops with
      | none => exact tbad
      | some op =>
        cases oneP rs with
        | none => exact tbad
        | some r =>
          obtain ⟨op, e1⟩ := op
          obtain ⟨r, e2⟩ := r
          subst e1 e2
          show JE X cG fs A _ _ _ ρ (testE T (n + 1) ks loc (guE (isSetE r) _) H) s
          cases h : isSetE r with
          | true => exact tbad
          | false => exact cmpT_snd hE hA' hV a _ _ _ _ h _
end
end Mine
end
section
namespace Mine
open PySem PySem.Calls PyProof.Rows PySem.W
noncomputable def ownOf (X : Wd) (env : Env) (ks : Ks) : Addr → Prop := fun a => a = env.locals ∨ ∃ n, ks.lookup n = some .cell ∧ env.cells.lookup (X.nm n) = some a
section
variable {X : Wd} {cG : Addr} {T : Tab} {K : Frag} {fs : List Env} {A : Around} {own W : Addr → Prop} {s s' : Shared} {ρ ρ' : Rho} {env : Env} {ks : Ks} {loc : Loc} {H H' : Hp} {n m : Nat}
theorem VRel.mono {h h' : Heap} (k : ∀ a o, h.get? a = some o → ¬ Wr ρ a → Solid o → h'.get? a = some o ∧ ¬ Wr ρ a) : ∀ {d : V} {v : Value}, VRel X h ρ d v → VRel X h' ρ d v
  | .d _, _, z => DRel.mono k z
  | .loc _, _, z => z
theorem FRels.mono {h h' : Heap} {ρ' : Rho} (k : ∀ a o, h.get? a = some o → ¬ Wr ρ a → Solid o → h'.get? a = some o ∧ ¬ Wr ρ' a) : ∀ {d : List (Nat × D)} {v : List DictEntry}, FRels X h ρ d v → FRels X h' ρ' d v
  | [], _, h => h
  | _ :: _, _, ⟨w, r, t, h, a, b, c, d⟩ => ⟨w, r, t, h, a, b, DRel.mono k c, FRels.mono k d⟩
theorem Inv.owned (I : Inv X fs ρ H s) (S : Step fs W s s') (hW : ∀ a, W a → X.B.objs.size ≤ a ∧ ¬ Wr ρ a ∧ ∀ o, s.heap.get? a = some o → ¬ Solid o) :
    Inv X fs ρ H s' ∧ (∀ a o, s.heap.get? a = some o → ¬ Wr ρ a → Solid o → s'.heap.get? a = some o ∧ ¬ Wr ρ a) := by
  have k : ∀ a o, s.heap.get? a = some o → ¬ Wr ρ a → Solid o → s'.heap.get? a = some o ∧ ¬ Wr ρ a := by
    intro a o e n so
    refine ⟨S.get I.stk e (fun w => (hW a w).2.2 o e so) so.flat.1, n⟩
  have k2 : ∀ a o, s.heap.get? a = some o → Wr ρ a → s'.heap.get? a = some o := by
    intro a o e w
    refine E1A2 (S.keep a o e fun w' => (hW a w').2.1 w) fun sl e1 q => ?_
    rcases q with rfl | q
    · exact e1
    · exact absurd q (I.notDict w)
  refine ⟨⟨⟨I.rel.len, fun i p o hp ho => ?_, I.rel.apart, I.rel.above⟩, fun b o e => ?_, I.stk.step S, I.off, Nat.le_trans I.sz S.size⟩, k⟩
  · have z := I.rel.obj i p o hp ho
    induction o with
    | list l =>
      obtain ⟨e, its, n, g, r⟩ := z
      exact ⟨e, its, n, k2 _ _ g (Wr.of1 hp), DRels.mono k r⟩
    | inst l =>
      obtain ⟨g, es, n, g', r⟩ := z
      exact ⟨k2 _ _ g (Wr.of1 hp), es, n, k2 _ _ g' (Wr.of2 hp), FRels.mono k r⟩
  · refine E1A2 (S.keep b o (I.base b o e) fun w => absurd (Heap.lt_size e) (Nat.not_lt.mpr (hW b w).1)) fun sl e1 q => ?_
    rcases q with rfl | q
    · exact e1
    · exact absurd q (I.stk.low (Heap.lt_size e))
theorem lookup_cons' {α : Type} (p : Nat × α) (r : List (Nat × α)) (k : Nat) : List.lookup k (p :: r) = if k = p.1 then some p.2 else r.lookup k := by
  rw [List.lookup_cons]
  by_cases h : k = p.1
  · rw [if_pos h, beq_iff_eq.mpr h]
  · rw [if_neg h, beq_eq_false_iff_ne.mpr h]
theorem setLoc_lookup (loc : Loc) (n : Nat) (v : V) (k : Nat) : (setLoc loc n v).lookup k = if k = n then some v else loc.lookup k := by
  induction loc with
  | nil => unfold setLoc; rw [lookup_cons']
  | cons p r ih =>
    obtain ⟨m, w⟩ := p
    unfold setLoc
    by_cases h : m = n
    · subst h
      rw [if_pos rfl, lookup_cons', lookup_cons']
      by_cases h2 : k = m
      · rw [if_pos h2, if_pos h2]
      · rw [if_neg h2, if_neg h2, if_neg h2]
    · rw [if_neg h, lookup_cons', lookup_cons', ih]
      by_cases h2 : k = m
      · subst h2; rw [if_pos rfl, if_neg h, if_pos rfl]
      · rw [if_neg h2, if_neg h2]
theorem store_any (N : NamesOK X) (hV : EnvOK X env ks) (a : At X fs env ks loc ρ H s) {E : Value → Shared → Prop} {x : Str} {n : Nat} {v : V} {w : Value} (hx : X.f x = some n) (hn : isStore ks n = true) (hv : VRel X s.heap ρ v w) {Q : Unit → Shared → Prop}
    (h : ∀ s', Step fs (ownOf X env ks) s s' → FrRel X env ks (setLoc loc n v) ρ s'.heap → (∀ d u, VRel X s.heap ρ d u → VRel X s'.heap ρ d u) → Inv X fs ρ H s' → Q () s') : wpAny X.M A (bindName env x w) Q E s := by
  revert N hV a hx hn hv h; revert X fs A s ρ env ks loc H E x n v w Q
  refine @(eps13 (P := ?P) (dX, dG, dA, dS, dR, dE, dK, dL, dH, dq, ds, dN, dv) rfl ((?m : Pi13 ?P) _ _ _ _ _ _ _ _ _ _ _ _ _))
  intro X fs A s ρ env ks loc H E x n v w Q N hV a hx hn hv h
  have ex := N.inj x n hx
  have hW : ∀ b, b = env.locals ∨ (∃ k, ks.lookup k = some .cell ∧ env.cells.lookup (X.nm k) = some b) → X.B.objs.size ≤ b ∧ ¬ Wr ρ b ∧ ∀ o, s.heap.get? b = some o → ¬ Solid o := by
    rintro b (rfl | ⟨k, hk, hc⟩)
    · refine ⟨hV.abv, a.fr.off, fun o ho so => ?_⟩
      refine E1A2 (a.fr.ns) fun mm hn' _ => ?_
      refine E3A3 (hn') fun o' es ep g d _ => ?_; try clear hn'
      rw [g] at ho; cases ho
      exact so.flat.1 _ _ d
    · refine E3A5 (a.fr.cel k (.inl hk)) fun c o cv e1 e2 e3 e4 _ => ?_
      rw [hc] at e1; cases e1
      refine ⟨(hV.cabv _ _ hc).1, e4, fun o' ho so => ?_⟩
      rw [e2] at ho; cases ho
      exact so.flat.2 _ e3
  refine wpAny_bindName ?_
  rcases isStore_is hn with hl | hl
  · refine E1A2 (a.fr.ns) fun mm hns hval => ?_
    have hk : env.kindOf x = some .local := by rw [hV.kinds x n hx, hl]; rfl
    refine wpAny_storeName_local hk hns (fun h' hn' hs => ?_) (by rw [hV.kind]; rfl)
    have S : Step fs (ownOf X env ks) s { s with heap := h', toks := s.toks + 1 } := Step.one _ (.inl rfl) hs fun o es n e q => by
      refine E3A3 (hn') fun o' es' ep g d _ => ?_; try clear hn'
      exact ⟨o', es', ep, g, d⟩
    refine E0A2 (a.inv.owned S hW) fun I' k => ?_
    have kv : ∀ d u, VRel X s.heap ρ d u → VRel X h' ρ d u := fun d u z => VRel.mono k z
    refine h _ S ⟨⟨_, hn', fun j u hj hu => ?_⟩, fun j hj => ?_, fun j u hu => ?_, a.fr.off⟩ kv I'
    · rw [setLoc_lookup] at hu
      by_cases hjn : j = n
      · subst hjn
        rw [if_pos rfl] at hu; cases hu
        exact ⟨w, by rw [ex, if_pos rfl], kv _ _ hv⟩
      · rw [if_neg hjn] at hu
        refine E1A2 (hval j u hj hu) fun val e R => ?_
        exact ⟨val, by rw [if_neg (by rw [ex]; exact fun e => hjn (N.nmInj _ _ e))]; exact e, kv _ _ R⟩
    · refine E3A5 (a.fr.cel j hj) fun c o cv e1 e2 e3 e4 e5 => ?_
      refine ⟨c, o, cv, e1, (hs.2 c (hV.cabv _ _ e1).2).trans e2, e3, e4, fun u hu => ?_⟩
      rw [setLoc_lookup, if_neg (by rintro rfl; rw [hl] at hj; rcases hj with hj | hj <;> cases hj)] at hu
      refine E1A2 (e5 u hu) fun val q R => ?_
      exact ⟨val, q, kv _ _ R⟩
    · rw [setLoc_lookup] at hu
      by_cases hjn : j = n
      · subst hjn; exact ⟨ex ▸ hx, .inl hl⟩
      · rw [if_neg hjn] at hu; exact a.fr.dom j u hu
  · have hk : env.kindOf x = some .cell := by rw [hV.kinds x n hx, hl]; rfl
    refine E3A5 (a.fr.cel n (.inl hl)) fun c o cv e1 e2 e3 e4 e5 => ?_
    refine wpAny_storeName_cell hV.kind hk (ex ▸ e1) ⟨o, e2, e3⟩ (fun h' hc' hs => ?_)
    refine E1A2 (hc') fun oc g gd => ?_; try clear hc'
    have S : Step fs (ownOf X env ks) s { s with heap := h' } := Step.one (k := s.toks) _ (.inr ⟨n, hl, e1⟩) hs fun o' es n' e q => by rw [e2] at e; cases e; rw [e3] at q; cases q
    refine E0A2 (a.inv.owned S hW) fun I' k => ?_
    have kv : ∀ d u, VRel X s.heap ρ d u → VRel X h' ρ d u := fun d u z => VRel.mono k z
    refine E1A2 (a.fr.ns) fun mm hns hval => ?_
    refine h _ S ⟨⟨mm, hns.sameBut hs (fun q => (hV.cabv _ _ e1).2 q.symm), fun j u hj hu => ?_⟩, fun j hj => ?_, fun j u hu => ?_, a.fr.off⟩ kv I'
    · rw [setLoc_lookup, if_neg (by rintro rfl; rw [hl] at hj; cases hj)] at hu
      refine E1A2 (hval j u hj hu) fun val e R => ?_
      exact ⟨val, e, kv _ _ R⟩
    · by_cases hjn : j = n
      · subst hjn
        refine ⟨c, oc, some w, e1, g, gd, e4, fun u hu => ?_⟩
        rw [setLoc_lookup, if_pos rfl] at hu; cases hu
        exact ⟨w, rfl, kv _ _ hv⟩
      · refine E3A5 (a.fr.cel j hj) fun c' o' cv' f1 f2 f3 f4 f5 => ?_
        have ne : c' ≠ c := fun q => hjn (N.nmInj _ _ (hV.cinj _ _ c (q ▸ f1) e1))
        refine ⟨c', o', cv', f1, (hs.2 c' ne).trans f2, f3, f4, fun u hu => ?_⟩
        rw [setLoc_lookup, if_neg hjn] at hu
        refine E1A2 (f5 u hu) fun val q R => ?_
        exact ⟨val, q, kv _ _ R⟩
    · rw [setLoc_lookup] at hu
      by_cases hjn : j = n
      · subst hjn; exact ⟨ex ▸ hx, .inr (.inl hl)⟩
      · rw [if_neg hjn] at hu; exact a.fr.dom j u hu
end
end Mine
end
section
namespace Mine
open PySem PySem.Calls PyProof.Rows PySem.W
noncomputable def FlOf (X : Wd) (h : Heap) (ρ : Rho) : Fl → Flow → Prop
  | .next, f => f = .next
  | .brk, f => f = .brk
  | .cont, f => f = .cont
  | .ret v, f => ∃ w, f = .ret w ∧ VRel X h ρ v w
noncomputable def FlRel (X : Wd) (env : Env) (ks : Ks) (h : Heap) (ρ : Rho) (x : Fl × Loc) (f : Flow) : Prop := FrRel X env ks x.2 ρ h ∧ FlOf X h ρ x.1 f
noncomputable def SndX (X : Wd) (cG : Addr) (T : Tab) (n : Nat) : Prop := ∀ (fs : List Env) (A : Around) (env : Env) (ks : Ks) (loc : Loc) (ρ : Rho) (H : Hp) (s : Shared) (m : Nat) (st : Stmt), AOK n A fs → EnvOK X env ks → At X fs env ks loc ρ H s → env.frame = some env.locals → fs.head? = some env →
  JE X cG fs A (PySem.exec st env) (FlRel X env ks) (ownOf X env ks) ρ (exec T n ks loc (erS X.f ks m st) H) s
section
variable {X : Wd} {cG : Addr} {T : Tab} {K : Frag} {fs : List Env} {A : Around} {s s' : Shared} {ρ ρ' : Rho} {env : Env} {ks : Ks} {loc : Loc} {H H' : Hp} {n m : Nat}
theorem JE.own {α β : Type} {t : Sem α} {r : R β} {Rel : Heap → Rho → β → α → Prop} {own : Addr → Prop} (h : JE X cG fs A t Rel noOwn ρ r s) : JE X cG fs A t Rel own ρ r s := h.weaken fun _ z => z.elim
theorem JE.val {α β γ δ : Type} {t : Sem α} {f : α → Sem γ} {r : R δ} {k : δ → Hp → R β} {Rel0 : Heap → Rho → δ → α → Prop} {Rel : Heap → Rho → β → γ → Prop} {own : Addr → Prop} (a : At X fs env ks loc ρ H s) (h : JE X cG fs A t Rel0 noOwn ρ r s)
    (w : ∀ v H' u s' ρ', Ext ρ s.heap.objs.size ρ' → At X fs env ks loc ρ' H' s' → Rel0 s'.heap ρ' v u → Step fs (fun a => noOwn a ∨ Wr ρ a) s s' → JE X cG fs A (f u) Rel own ρ' (k v H') s') :
    JE X cG fs A (t >>= f) Rel own ρ (r.bind k) s := by
  induction r with
  | bad => trivial
  | exc m sp H' => exact wpAny_bind (wpAny_mono h (fun _ _ x => x.elim) fun e s' ⟨ρ', e, I, R, S⟩ => ⟨ρ', e, I, R, S.mono fun a z => z.elim (fun z => z.elim) .inr⟩)
  | ok b H' =>
    show JE X cG fs A (t >>= f) Rel own ρ (k b H') s
    cases q : k b H' with
    | bad => trivial
    | ok c H'' =>
      refine wpAny_bind (wpAny_mono h (fun u s' z => ?_) fun _ _ x => x.elim)
      obtain ⟨ρ', e, I, R, S⟩ := z
      have z := w b H' u s' ρ' e (a.next e I S) R S
      rw [q] at z
      refine wpAny_mono z (fun c s'' ⟨ρ'', e', I', R', S'⟩ => ⟨ρ'', e.trans e' S.size, I', R', Step.trans (S.mono fun a z => z.elim (fun z => z.elim) .inr) S' fun a l w => ?_⟩) fun _ _ x => x
      exact w.imp (fun z => z) fun w => (e.old l).mp w
    | exc m sp H'' =>
      refine wpAny_bind (wpAny_mono h (fun u s' z => ?_) fun _ _ x => x.elim)
      obtain ⟨ρ', e, I, R, S⟩ := z
      have z := w b H' u s' ρ' e (a.next e I S) R S
      rw [q] at z
      refine wpAny_mono z (fun _ _ x => x) fun c s'' ⟨ρ'', e', I', R', S'⟩ => ⟨ρ'', e.trans e' S.size, I', R'.down S.size, Step.trans (S.mono fun a z => z.elim (fun z => z.elim) .inr) S' fun a l w => ?_⟩
      exact w.imp (fun z => z) fun w => (e.old l).mp w
theorem JE.next (a : At X fs env ks loc ρ H s) {own : Addr → Prop} {fl : Fl} {f : Flow} (h : FlOf X s.heap ρ fl f) : JE X cG fs A (Pure.pure f) (FlRel X env ks) own ρ (.ok (fl, loc) H) s := JE.pure a.inv ⟨a.fr, h⟩
theorem JE.fin {α β : Type} {t : Sem α} {a : α} {b : β} {Rel : Heap → Rho → β → α → Prop} {own : Addr → Prop} (I : Inv X fs ρ H s) (h : Rel s.heap ρ b a) (w : ∀ (Q : α → Shared → Prop) (E : Value → Shared → Prop), Q a s → wpAny X.M A t Q E s) : JE X cG fs A t Rel own ρ (.ok b H) s :=
  w _ _ ⟨ρ, Ext.refl _ _, I, h, Step.refl _ _ _⟩
theorem JE.store {γ β : Type} (N : NamesOK X) (hV : EnvOK X env ks) (a : At X fs env ks loc ρ H s) {x : Str} {n : Nat} {v : V} {w : Value} (hx : X.f x = some n) (hn : isStore ks n = true) (hv : VRel X s.heap ρ v w) {f : Unit → Sem γ} {r : R β} {Rel : Heap → Rho → β → γ → Prop}
    (h : ∀ s', At X fs env ks (setLoc loc n v) ρ H s' → (∀ d u, VRel X s.heap ρ d u → VRel X s'.heap ρ d u) → Step fs (ownOf X env ks) s s' → JE X cG fs A (f ()) Rel (ownOf X env ks) ρ r s') : JE X cG fs A (bindName env x w >>= f) Rel (ownOf X env ks) ρ r s := by
  induction r with
  | bad => trivial
  | ok c H' =>
    refine wpAny_bind (store_any N hV a hx hn hv fun s' S F k I => ?_)
    have z := h s' ⟨I, F⟩ k S
    exact wpAny_mono z (fun c s'' ⟨ρ', e, I', R, S'⟩ => ⟨ρ', ⟨e.choose, e.choose_spec.1, fun p hp => ⟨Nat.le_trans S.size (e.choose_spec.2 p hp).1, Nat.le_trans S.size (e.choose_spec.2 p hp).2⟩⟩, I', R, Step.trans (S.mono fun a z => .inl z) S' fun a l w => w⟩) fun _ _ x => x
  | exc m sp H' =>
    refine wpAny_bind (store_any N hV a hx hn hv fun s' S F k I => ?_)
    have z := h s' ⟨I, F⟩ k S
    exact wpAny_mono z (fun _ _ x => x) (fun c s'' ⟨ρ', e, I', R, S'⟩ => ⟨ρ', ⟨e.choose, e.choose_spec.1, fun p hp => ⟨Nat.le_trans S.size (e.choose_spec.2 p hp).1, Nat.le_trans S.size (e.choose_spec.2 p hp).2⟩⟩, I', R.down S.size, Step.trans (S.mono fun a z => .inl z) S' fun a l w => w⟩)
set_option backward.match.sparseCases true in
theorem execs_snd (hX : SndX X cG T n) (hA : AOK n A fs) (hV : EnvOK X env ks) (hf : env.frame = some env.locals) (hh : fs.head? = some env) : ∀ (l : List Stmt) {loc : Loc} {ρ : Rho} {H : Hp} {s : Shared}, At X fs env ks loc ρ H s →
    JE X cG fs A (execs l env) (FlRel X env ks) (ownOf X env ks) ρ (execL (fun loc s H => exec T n ks loc s H) (l.map (erS X.f ks m)) loc H) s
  | [], loc, ρ, H, s, a => JE.next (fl := .next) a rfl
  | st :: r, loc, ρ, H, s, a => by
    show JE X cG fs A (PySem.exec st env >>= fun f => match f with | .next => execs r env | f => pure f) _ _ _ _ _
    refine JE.bind (hX fs A env ks loc ρ H s m st hA hV a hf hh) fun x H' f s' ρ' e I R S => ?_
    obtain ⟨fl, loc'⟩ := x
    refine E0A2 (R) fun F z => ?_; try clear R
    have a' : At X fs env ks loc' ρ' H' s' := ⟨I, F⟩
    induction fl with
    | next => cases z; exact execs_snd hX hA hV hf hh r a'
    | brk => cases z; exact JE.next (fl := .brk) a' rfl
    | cont => cases z; exact JE.next (fl := .cont) a' rfl
    | ret v => obtain ⟨w, rfl, z⟩ := z; exact JE.next (fl := .ret v) a' ⟨w, rfl, z⟩
theorem exprS_snd (hE : SndE X cG T n) (hA : AOK n A fs) (hV : EnvOK X env ks) (a : At X fs env ks loc ρ H s) (e : Expr) (pos : Pos) (he : isComp e = false) :
    JE X cG fs A (PySem.exec (.Expr e pos) env) (FlRel X env ks) (ownOf X env ks) ρ (exec T (n + 1) ks loc (.expr (erE X.f m e)) H) s := by
  have hsw : swapsWith e none pos.line env = pure false := by cases e <;> first | rfl | cases he
  have hi : interactive env = false := by unfold interactive; rw [hV.kind]; rfl
  show JE X cG fs A (standAt pos >>= fun _ => if interactive env then printExpr (eval e env) else swapsWith e none pos.line env >>= fun b => if b then _ else eval e env >>= fun v => dropValue e pos v) _ _ _ _ _
  refine JE.stand ?_
  rw [hi, hsw, if_neg (by decide), pure_bind, if_neg (by decide)]
  refine JE.val a (hE fs A env ks loc ρ H s m e hA hV a) fun v H' u s' ρ' x a' R S => ?_
  exact JE.fin (a := .next) a'.inv ⟨a'.fr, (show FlOf X _ _ .next .next from rfl)⟩ fun Q E z => wpAny_dropValue z
end
end Mine
end
section
namespace Mine
open PySem PySem.Calls PyProof.Rows PySem.W
section
variable {X : Wd} {cG : Addr} {T : Tab} {K : Frag} {fs : List Env} {A : Around} {s s0 s1 s' : Shared} {ρ ρ' : Rho} {env : Env} {ks : Ks} {loc : Loc} {H H' : Hp} {n m : Nat} {own : Addr → Prop}
noncomputable def JER (X : Wd) (cG : Addr) (fs : List Env) {α β : Type} (A : Around) (t : Sem α) (Rel : Heap → Rho → β → α → Prop) (own : Addr → Prop) (ρ : Rho) (r : R β) (s0 s : Shared) : Prop :=
  match r with
  | .bad => True
  | .ok b H' => wpAny X.M A t (JOk X fs own ρ s0 Rel b H') (fun _ _ => False) s
  | .exc m sp H' => wpAny X.M A t (fun _ _ => False) (JEx X cG fs own ρ s0 m sp H') s
theorem Ext.low {ρ ρ' : Rho} {n n' : Nat} (e : Ext ρ n ρ') (h : n' ≤ n) : Ext ρ n' ρ' := by
  refine E1A2 (e) fun τ q z => ?_; try clear e
  exact ⟨τ, q, fun p hp => ⟨Nat.le_trans h (z p hp).1, Nat.le_trans h (z p hp).2⟩⟩
theorem JE.shift {α β : Type} {t : Sem α} {r : R β} {Rel : Heap → Rho → β → α → Prop} {W : Addr → Prop} (S : Step fs W s s1) (hW : ∀ a, a < s.heap.objs.size → W a → own a ∨ Wr ρ a) (h : JE X cG fs A t Rel own ρ r s1) : JER X cG fs A t Rel own ρ r s s1 := by
  have S' : Step fs (fun a => own a ∨ Wr ρ a ∨ s.heap.objs.size ≤ a) s s1 := S.mono fun a w => by
    by_cases l : a < s.heap.objs.size
    · rcases hW a l w with q | q
      · exact .inl q
      · exact .inr (.inl q)
    · exact .inr (.inr (Nat.not_lt.mp l))
  have fin : ∀ {s'' : Shared}, Step fs (fun a => own a ∨ Wr ρ a) s1 s'' → Step fs (fun a => own a ∨ Wr ρ a) s s'' := fun {s''} S2 => by
    have q := Step.trans (W := fun a => own a ∨ Wr ρ a ∨ s.heap.objs.size ≤ a) S' S2 fun a l w => w.imp (fun z => z) .inl
    refine ⟨q.gens, q.os, q.size, fun a o e n => q.keep a o e fun w => ?_, q.flat⟩
    rcases w with w | w | w
    · exact n (.inl w)
    · exact n (.inr w)
    · exact absurd (Heap.lt_size e) (Nat.not_lt.mpr w)
  induction r with
  | bad => trivial
  | ok b H' => exact wpAny_mono h (fun a s' ⟨ρ', e, I, R, S2⟩ => ⟨ρ', e.low S.size, I, R, fin S2⟩) fun _ _ x => x
  | exc m sp H' => exact wpAny_mono h (fun _ _ x => x) fun a s' ⟨ρ', e, I, R, S2⟩ => ⟨ρ', e.low S.size, I, R.down S.size, fin S2⟩
theorem JER.self {α β : Type} {t : Sem α} {r : R β} {Rel : Heap → Rho → β → α → Prop} (h : JER X cG fs A t Rel own ρ r s s) : JE X cG fs A t Rel own ρ r s := by
  cases r <;> exact h
theorem JE.run {α β γ : Type} {t : Sem α} {f : α → Sem γ} {r : R β} {Rel : Heap → Rho → β → γ → Prop} (P : α → Shared → Prop) (w : ∀ (Q : α → Shared → Prop) (E : Value → Shared → Prop), (∀ x s', P x s' → Q x s') → wpAny X.M A t Q E s)
    (h : ∀ x s', P x s' → JER X cG fs A (f x) Rel own ρ r s s') : JE X cG fs A (t >>= f) Rel own ρ r s := by
  induction r with
  | bad => trivial
  | ok b H' => exact wpAny_bind (w _ _ fun x s' p => h x s' p)
  | exc m sp H' => exact wpAny_bind (w _ _ fun x s' p => h x s' p)
theorem At.keeps (a : At X fs env ks loc ρ H s) (S : Step fs Wr0 s s') : At X fs env ks loc ρ H s' := ⟨a.inv.step0 S, a.fr.step a.inv.stk S.of0 (Ext.refl _ _)⟩
noncomputable def TgOK (X : Wd) (env : Env) (t : Value → Sem Unit) (n : Nat) : Prop := ∃ x, X.f x = some n ∧ ∀ (A : Around) (w : Value) (Q : Unit → Shared → Prop) (E : Value → Shared → Prop) (s : Shared), wpAny X.M A (bindName env x w) Q E s → wpAny X.M A (t w) Q E s
inductive TgsOK (X : Wd) (env : Env) : List (Value → Sem Unit) → List Nat → Prop
  | nil : TgsOK X env [] []
  | cons {t n ts ns} : TgOK X env t n → TgsOK X env ts ns → TgsOK X env (t :: ts) (n :: ns)
theorem TgsOK.append {X : Wd} {env : Env} {ts us : List (Value → Sem Unit)} {ns ms : List Nat} (h : TgsOK X env ts ns) (h' : TgsOK X env us ms) : TgsOK X env (ts ++ us) (ns ++ ms) := by
  induction h with
  | nil => exact h'
  | cons a _ ih => exact .cons a ih
theorem TgsOK.reverse {X : Wd} {env : Env} {ts : List (Value → Sem Unit)} {ns : List Nat} (h : TgsOK X env ts ns) : TgsOK X env ts.reverse ns.reverse := by
  induction h with
  | nil => exact .nil
  | cons a _ ih => rw [List.reverse_cons, List.reverse_cons]; exact ih.append (.cons a .nil)
theorem VRels.append {h : Heap} : ∀ {l l' : List V} {vs vs' : List Value}, VRels X h ρ l vs → VRels X h ρ l' vs' → VRels X h ρ (l ++ l') (vs ++ vs')
  | [], _, _, _, e, z => by rw [show _ = [] from e]; exact z
  | _ :: _, _, _, _, ⟨w, r, e, a, b⟩, z => ⟨w, r ++ _, by rw [e]; rfl, a, VRels.append b z⟩
theorem VRels.reverse {h : Heap} : ∀ {l : List V} {vs : List Value}, VRels X h ρ l vs → VRels X h ρ l.reverse vs.reverse
  | [], _, e => by rw [show _ = [] from e]; rfl
  | _ :: _, _, ⟨w, r, e, a, b⟩ => by
    rw [e, List.reverse_cons, List.reverse_cons]
    exact VRels.append (VRels.reverse b) ⟨w, [], rfl, a, rfl⟩
theorem VRels.length {h : Heap} : ∀ {l : List V} {vs : List Value}, VRels X h ρ l vs → vs.length = l.length
  | [], _, e => by rw [show _ = [] from e]; rfl
  | _ :: _, _, ⟨w, r, e, a, b⟩ => by rw [e, List.length_cons, List.length_cons, VRels.length b]
theorem VRels.ofD {h : Heap} : ∀ {l : List D} {vs : List Value}, DRels X h ρ l vs → VRels X h ρ (l.map V.d) vs
  | [], _, e => e
  | _ :: _, _, ⟨w, r, e, a, b⟩ => ⟨w, r, e, a, VRels.ofD b⟩
theorem VRels.imp {h h' : Heap} (k : ∀ d u, VRel X h ρ d u → VRel X h' ρ d u) : ∀ {l : List V} {vs : List Value}, VRels X h ρ l vs → VRels X h' ρ l vs
  | [], _, e => e
  | _ :: _, _, ⟨w, r, e, a, b⟩ => ⟨w, r, e, k _ _ a, VRels.imp k b⟩
theorem stores_any (N : NamesOK X) (hV : EnvOK X env ks) {E : Value → Shared → Prop} {ts : List (Value → Sem Unit)} {ns : List Nat} (h : TgsOK X env ts ns) : ∀ {vs : List V} {ws : List Value} {loc loc' : Loc} {s : Shared} {Q : Unit → Shared → Prop}, At X fs env ks loc ρ H s → VRels X s.heap ρ vs ws → setLocs ks ns vs loc = some loc' →
    (∀ s', At X fs env ks loc' ρ H s' → Step fs (ownOf X env ks) s s' → Q () s') → wpAny X.M A (assignInOrder ts ws) Q E s := by
  induction h with
  | nil =>
    intro vs ws loc loc' s Q a R e k
    cases vs with
    | cons _ _ => cases e
    | nil => cases e; rw [show ws = [] from R]; exact wpAny_pure (k s a (Step.refl _ _ _))
  | @cons t n ts ns ht _ ih =>
    intro vs ws loc loc' s Q a R e k
    cases vs with
    | nil => cases e
    | cons v vs =>
      refine E2A3 (R) fun w r hz2 h1 h2 => ?_; subst hz2; try clear R
      refine E0A2 (setLocs_is e) fun hs e => ?_
      refine E1A2 (ht) fun x hx hw => ?_; try clear ht
      show wpAny X.M A (holding r (t w) >>= fun _ => assignInOrder ts r) Q E s
      refine wpAny_bind (wpAny_holding (hw _ _ _ _ _ (store_any N hV a hx hs h1 fun s' S F kk I => ?_)))
      exact ih ⟨I, F⟩ (VRels.imp kk h2) e fun s'' a' S' => k s'' a' (S.trans S' fun a _ z => z)
theorem tgs_ok (X : Wd) (env : Env) (ts : List Expr) : ∀ (ns : List Nat), rNames X.f ts = some ns → TgsOK X env ((assignEach ts env).map (·.2)) ns ∧ (assignEach ts env).findIdx? (·.1) = none ∧ (assignEach ts env).length = ns.length := by
  induction ts with
  | nil => intro ns h; cases h; exact ⟨.nil, rfl, rfl⟩
  | cons t ts ih =>
    intro ns h
    refine E4A4 (rNames_is h) fun x p n l e1 e2 h1 h2 => ?_
    subst e1 e2
    refine E0A3 (ih l h2) fun a b c => ?_
    have e : assignEach (.Name x p :: ts) env = (false, assign (.Name x p) env) :: assignEach ts env := rfl
    rw [e]
    refine ⟨.cons ⟨x, h1, fun A w Q E s z => ?_⟩ a, ?_, congrArg (· + 1) c⟩
    · show wpAny X.M A (standAt p >>= fun _ => bindName env x w) Q E s
      exact wpAny_bind (wpAny_standAt z)
    · rw [List.findIdx?_cons, b]; rfl
theorem items_any (hA : AOK n A fs) (I : Inv X fs ρ H s) {E : Value → Shared → Prop} {t : Addr} {its : Array Value} {k : Nat} {Q : List Value → Shared → Prop} (g : s.heap.get? t = some (tupO its k)) {c : Nat} (hc : c = its.size)
    (h : ∀ s', Step fs Wr0 s s' → Q its.toList s') : wpAny X.M A (unpackItems (.ref t) c none) Q E s := by
  subst hc
  refine sized (wpAny_unpackItems_tuple hA.handled ⟨_, g, rfl, _, rfl⟩ fun h' hx hs => h _ ?_)
  exact Step.keeps fs Wr0 s (k := s.toks) (fun a o e => hx a o (Nat.ne_of_lt (Heap.lt_size e)) e) hs
theorem sole_plain (t : Expr) (e : Expr) (l : Nat) (env : Env) (he : isComp e = false) : swapsWithSole [t] e l env = pure false := by
  show swapsWith e (some t) l env = pure false
  cases e <;> first | rfl | cases he
theorem assign_tree (targets : List Expr) (e : Expr) (pos : Pos) (env : Env) (h : swapsWithSole targets e pos.line env = pure false) : PySem.exec (.Assign targets e pos) env =
    (standAt pos >>= fun _ => eval e env >>= fun v => swappedStores targets e env >>= fun q => assignStores env v q ((assignEach targets env).map (·.2))) := by
  rw [arm_exec_Assign, h]; rfl
theorem stores_none (env : Env) (v : Value) (t : Expr) (h : (match t with | .Starred .. => true | _ => false) = false) : assignStores env v none ((assignEach [t] env).map (·.2)) = (assign t env v >>= fun _ => Pure.pure Flow.next) := by
  cases t <;> first | rfl | cases h
theorem asgT_snd (N : NamesOK X) (hE : SndE X cG T n) (hA : AOK n A fs) (hV : EnvOK X env ks) (a : At X fs env ks loc ρ H s) (ts : List Expr) (tk : Nat) (tp : Pos) (e : Expr) (pos : Pos) (ns : List Nat) (hts : rNames X.f ts = some ns) (he : isComp e = false) (ht : tupP e = none) :
    JE X cG fs A (PySem.exec (.Assign [.Tuple ts tk tp] e pos) env) (FlRel X env ks) (ownOf X env ks) ρ (exec T (n + 1) ks loc (.asgT ns false (erE X.f m e)) H) s := by
  revert N hE hA hV a hts he ht; revert X cG T fs A s ρ env ks loc H n m ts tk tp e pos ns
  refine @(eps19 (P := ?P) (dX, dN, dT, dG, dA, dS, dR, dE, dK, dL, dH, dN, dN, dl, dN, dp, de, dp, (default : List Nat)) rfl ((?m : Pi19 ?P) _ _ _ _ _ _ _ _ _ _ _ _ _ _ _ _ _ _ _))
  intro X cG T fs A s ρ env ks loc H n m ts tk tp e pos ns N hE hA hV a hts he ht
  have hss : swappedStores [.Tuple ts tk tp] e env = pure none := by cases e <;> first | rfl | cases ht
  rw [assign_tree _ _ _ _ (sole_plain _ _ _ _ he)]
  refine JE.stand ?_
  refine JE.val a (hE fs A env ks loc ρ H s m e hA hV a) fun v H' u s' ρ' x a' R S => ?_
  rw [hss, pure_bind]
  refine E0A3 (tgs_ok X env ts ns hts) fun t1 t2 t3 => ?_
  induction v with
  | loc => trivial
  | d xd =>
   cases xd with
   | tup l =>
    refine E3A4 (R) fun t its k hz3 g _ r => ?_; subst hz3; try clear R
    show JE X cG fs A _ _ _ _ (match setLocs ks ns (l.map V.d) loc with | some loc' => Mine.R.ok (Fl.next, loc') H' | Option.none => Mine.R.bad) _
    cases hl : setLocs ks ns (l.map V.d) loc with
    | none => trivial
    | some loc' =>
      have hlen : ns.length = its.size := by
        have := setLocs_len hl
        have e := r.length
        rw [Array.length_toList] at e
        rw [List.length_map] at this
        lia
      rw [stores_none _ _ _ rfl, show assign (.Tuple ts tk tp) env (.ref t) = (standAt tp >>= fun _ => unpack (.ref t) (assignEach ts env)) from rfl]
      refine JE.ok (wpAny_bind (wpAny_bind (wpAny_standAt ?_)))
      unfold unpack
      rw [t2, t3]
      refine wpAny_bind (wpAny_holding (items_any hA a'.inv g hlen fun s1 S1 => ?_))
      have a1 := a'.keeps S1
      refine stores_any N hV t1 a1 (VRels.ofD (DRels.step a'.inv.stk S1.of0 (Ext.refl _ _) r)) hl fun s2 a2 S2 => wpAny_pure ?_
      exact ⟨ρ', Ext.refl _ _, a2.inv, ⟨a2.fr, rfl⟩, (S1.mono fun _ z => z.elim).trans (W := fun a => ownOf X env ks a ∨ Wr ρ' a) (S2.mono fun _ z => .inl z) fun _ _ z => z⟩
   | _ => trivial
end
end Mine
end
section
namespace Mine
open PySem PySem.Calls PyProof.Rows PySem.W
noncomputable def SndM (X : Wd) (cG : Addr) (T : Tab) (n : Nat) : Prop := ∀ (fs : List Env) (A : Around) (env : Env) (ks : Ks) (loc : Loc) (ρ : Rho) (H : Hp) (s : Shared) (m : Nat) (mu : Bool) (es : List Expr) (p : Pos), AOK n A fs → EnvOK X env ks → At X fs env ks loc ρ H s → es.any isStar = false →
  JE X cG fs A (eval (.List es p) env) (VRel X) noOwn ρ (evalE T n ks loc (.list mu (es.map (erE X.f m))) H) s
theorem SndM.step {X : Wd} {cG : Addr} {T : Tab} {n : Nat} (hE : SndE X cG T n) : SndM X cG T (n + 1) :=
  fun fs A env ks loc ρ H s m mu es p hA hV a hs => list_snd hE (hA.le (Nat.le_succ n)) hV a mu es p hs
section
variable {X : Wd} {cG : Addr} {T : Tab} {K : Frag} {fs : List Env} {A : Around} {s s0 s1 s' : Shared} {ρ ρ' : Rho} {env : Env} {ks : Ks} {loc : Loc} {H H' : Hp} {n m : Nat} {own : Addr → Prop}
theorem mu_snd (hE : SndE X cG T n) (hM : SndM X cG T n) (hA : AOK n A fs) (hV : EnvOK X env ks) (a : At X fs env ks loc ρ H s) (k : Nat) (e : Expr) :
    JE X cG fs A (eval e env) (VRel X) noOwn ρ (evalE T n ks loc (erMu X.f m k e) H) s := by
  show JE X cG fs A _ _ _ ρ (evalE T n ks loc ((listP e).elim _ _) H) s
  cases listP e with
  | none => exact hE fs A env ks loc ρ H s m _ hA hV a
  | some v =>
    obtain ⟨l, p, e⟩ := v
    subst e
    show JE X cG fs A _ _ _ ρ (evalE T n ks loc (guE (l.any isStar) _) H) s
    cases h : l.any isStar with
    | true => cases n <;> trivial
    | false => exact hM fs A env ks loc ρ H s m _ _ _ hA hV a h
theorem asg_snd (N : NamesOK X) (hE : SndE X cG T n) (hM : SndM X cG T n) (hA : AOK n A fs) (hV : EnvOK X env ks) (a : At X fs env ks loc ρ H s) (x : Str) (xp : Pos) (e : Expr) (pos : Pos) (k : Nat) (hx : X.f x = some k) (he : isComp e = false ) :
    JE X cG fs A (PySem.exec (.Assign [.Name x xp] e pos) env) (FlRel X env ks) (ownOf X env ks) ρ (exec T (n + 1) ks loc (.asg k (erMu X.f m k e)) H) s := by
  have hss : swappedStores [.Name x xp] e env = pure none := by cases e <;> rfl
  rw [assign_tree _ _ _ _ (sole_plain _ _ _ _ he)]
  refine JE.stand ?_
  refine JE.val a (mu_snd hE hM hA hV a k e) fun v H' u s' ρ' z a' R S => ?_
  rw [hss, pure_bind, stores_none _ _ _ rfl]
  refine JE.guard fun hs => ?_
  show JE X cG fs A ((standAt xp >>= fun _ => bindName env x u) >>= fun _ => pure Flow.next) _ _ _ _ _
  refine JE.ok (wpAny_bind (wpAny_bind (wpAny_standAt (store_any N hV a' hx hs R fun s1 S1 F k I => wpAny_pure ?_))))
  exact ⟨ρ', Ext.refl _ _, I, ⟨F, rfl⟩, S1.mono fun _ z => .inl z⟩
theorem spliced_mus (hE : SndE X cG T n) (hM : SndM X cG T n) (hA : AOK n A fs) (hV : EnvOK X env ks) (p : Pos) : ∀ (ns : List Nat) (es : List Expr) {ρ : Rho} {H : Hp} {s : Shared}, es.any isStar = false → es.length = ns.length → At X fs env ks loc ρ H s →
    JE X cG fs A (spliced (backTo p (starEach es env))) (VRels X) noOwn ρ (evalL (evalE T n ks loc) (erMus X.f m ns es) H) s
  | [], [], ρ, H, s, _, _, a => JE.pure a.inv rfl
  | [], _ :: _, _, _, _, _, h, _ => by cases h
  | _ :: _, [], _, _, _, _, h, _ => by cases h
  | k :: ns, e :: r, ρ, H, s, hs, hl, a => by
    rw [List.any_cons, Bool.or_eq_false_iff] at hs
    rw [starEach_cons hs.1]
    refine JE.bind (mu_snd hE hM hA hV a k e) fun v H' w s' ρ' x I R S => ?_
    have a' := a.next x I S
    refine JE.pureB (JE.bind (JE.holding (spliced_mus hE hM hA hV p ns r hs.2 (by simpa using hl) a')) fun vs H'' ws s'' ρ'' x' I' R' S' => ?_)
    exact JE.pure I' ⟨w, ws, rfl, a'.val x' S' R, R'⟩
set_option backward.match.sparseCases true in
theorem names_is (N : NamesOK X) (hV : EnvOK X env ks) (line : Nat) (ts : List Expr) : ∀ (ns : List Nat), rNames X.f ts = some ns →
    ts.length = ns.length ∧ if (ns.all fun n => ks.lookup n == some .local) && ((ts.map (·.pos.line)).all fun l => l == line) then
      (ts.filterMap fun | .Name id pos => if env.kindOf id == some .local && pos.line == line then some id else none | _ => none) = ns.map X.nm
    else (ts.filterMap fun | .Name id pos => if env.kindOf id == some .local && pos.line == line then some id else none | _ => none).length ≠ ts.length := by
  induction ts with
  | nil => intro ns h; cases h; exact ⟨rfl, rfl⟩
  | cons t ts ih0 =>
    intro ns h
    refine E4A4 (rNames_is h) fun x p n l e1 e2 h1 h2 => ?_
    subst e1 e2
    refine E0A2 (ih0 l h2) fun hl ih => ?_
    refine ⟨by rw [List.length_cons, List.length_cons, hl], ?_⟩
    have ex := N.inj x n h1
    have hk : (env.kindOf x == some .local) = (ks.lookup n == some .local) := by
      rw [hV.kinds x n h1]
      cases ks.lookup n with
      | none => rfl
      | some k => cases k <;> rfl
    rw [List.filterMap_cons, List.all_cons, List.map_cons, List.all_cons]
    dsimp only
    rw [show (Expr.Name x p).pos = p from rfl, hk]
    have hle := List.length_filterMap_le (fun | .Name id pos => if env.kindOf id == some .local && pos.line == line then some id else none | _ => none) ts
    generalize (ts.filterMap fun | .Name id pos => if env.kindOf id == some .local && pos.line == line then some id else none | _ => none) = F at hle ih ⊢
    cases c1 : ks.lookup n == some .local <;> cases c2 : p.line == line
    · simp only [Bool.false_and, Bool.false_eq_true, if_false, List.length_cons]; exact Nat.ne_of_lt (Nat.lt_succ_of_le hle)
    · simp only [Bool.false_and, Bool.false_eq_true, if_false, List.length_cons]; exact Nat.ne_of_lt (Nat.lt_succ_of_le hle)
    · simp only [Bool.false_and, Bool.and_false, Bool.false_eq_true, if_false, List.length_cons]; exact Nat.ne_of_lt (Nat.lt_succ_of_le hle)
    · simp only [Bool.true_and, if_true, List.length_cons, List.map_cons]
      split
      · rename_i h; rw [if_pos h] at ih; rw [ih, ex]
      · rename_i h; rw [if_neg h] at ih; exact fun q => ih (Nat.succ.inj q)
theorem dups_off (N : NamesOK X) (ns : List Nat) : allOff ns = true → (ns.map X.nm).eraseDups.length = ns.length := by
  induction ns with
  | nil => intro _; rfl
  | cons a r ih =>
    intro h
    refine E0A2 (Bool.and_eq_true_iff.mp h) fun h1 h2 => ?_
    rw [List.map_cons, List.eraseDups_cons, List.filter_eq_self.mpr, List.length_cons, ih h2, List.length_cons]
    intro x hx
    refine E1A2 (List.mem_map.mp hx) fun b hb e => ?_
    cases q : x == X.nm a with
    | false => rfl
    | true =>
      rw [List.contains_iff_mem.mpr ((N.nmInj _ _ (e.trans (eq_of_beq q))) ▸ hb)] at h1
      cases h1
set_option backward.match.sparseCases true in
theorem swapped_is (N : NamesOK X) (hV : EnvOK X env ks) {ts es : List Expr} {ns : List Nat} {tk ek : Nat} {tp ep : Pos} {rev : Bool} (hts : rNames X.f ts = some ns) (h : revQ ks ns (ts.map (·.pos.line)) es = some rev) :
    swappedStores [.Tuple ts tk tp] (.Tuple es ek ep) env = pure (if rev then some (ns.map X.nm) else none) := by
  revert N hV hts h; revert X env ks ts es ns tk ek tp ep rev
  refine @(eps10 (P := ?P) (dX, dE, dK, dl, dl, (default : List Nat), dN, dN, dp, dp) rfl ((?m : Pi10 ?P) _ _ _ _ _ _ _ _ _ _))
  intro X env ks ts es ns tk ek tp ep rev N hV hts h
  refine E0A2 (names_is N hV ((ts.head?.map (·.pos.line)).getD 0) ts ns hts) fun hl hn => ?_
  have hb : env.blockKind = .function := by unfold Env.blockKind; rw [hV.kind]; rfl
  have hd : (ts.map (·.pos.line)).headD 0 = (ts.head?.map (·.pos.line)).getD 0 := by cases ts <;> rfl
  unfold revQ at h
  rw [hd] at h
  unfold swappedStores
  dsimp only
  rw [hl, hb]
  rw [show (ScopeKind.function != ScopeKind.function) = false from rfl, Bool.or_false]
  split at h
  · rename_i c; cases h; rw [if_pos c]; rfl
  · rename_i c
    rw [if_neg c]
    split at h
    · cases h
    · rename_i c2
      refine (if_neg c2).trans ?_
      split at h
      · rename_i c3
        cases h
        rw [if_neg (by
          intro q
          simp only [Bool.and_eq_true] at q
          simp only [q.1, q.2, Bool.not_true, Bool.or_false] at c3
          cases c3)] at hn
        rw [if_pos (by
          rw [Bool.or_eq_true]
          left
          rw [bne_iff_ne, ← hl]
          exact hn)]
        rfl
      · rename_i c3
        rw [if_pos (by
          rw [Bool.and_eq_true]
          rw [Bool.or_eq_true, not_or] at c3
          simpa using c3)] at hn
        generalize hg : List.filterMap _ ts = nl
        have hn' : nl = ns.map X.nm := hg.symm.trans hn
        clear hg
        subst hn'
        have fin : ∀ u : Sem (Option (List Str)), revFin es = some rev → (ns.map X.nm).eraseDups.length = ns.length → (if ((ns.map X.nm).length != ns.length || (ns.map X.nm).eraseDups.length != (ns.map X.nm).length) = true then (pure none : Sem (Option (List Str))) else
            if es.all (foldedForSure 8) = true then pure none else if es.all (constantsAlone 8) = true then u else pure (some (ns.map X.nm))) = pure (if rev then some (ns.map X.nm) else none) := by
          intro u h hd
          rw [hd, List.length_map]
          simp only [bne_self_eq_false, Bool.or_self, Bool.false_eq_true, if_false]
          unfold revFin at h
          split at h
          · rename_i c; cases h; rw [if_pos c]; rfl
          · rename_i c
            rw [if_neg c]
            split at h
            · cases h
            · rename_i c'; cases h; rw [if_neg c']; rfl
        split at h
        · rename_i q; exact fin _ h (dups_off N ns q)
        · cases h
end
end Mine
end
section
namespace Mine
open PySem PySem.Calls PyProof.Rows PySem.W
section
variable {X : Wd} {cG : Addr} {T : Tab} {K : Frag} {fs : List Env} {A : Around} {s s0 s1 s' : Shared} {ρ ρ' : Rho} {env : Env} {ks : Ks} {loc : Loc} {H H' : Hp} {n m : Nat} {own : Addr → Prop}
theorem JE.assoc {α β γ δ : Type} {t : Sem α} {f : α → Sem β} {g : β → Sem γ} {r : R δ} {Rel : Heap → Rho → δ → γ → Prop} (h : JE X cG fs A (t >>= fun x => f x >>= g) Rel own ρ r s) : JE X cG fs A ((t >>= f) >>= g) Rel own ρ r s := by
  refine h.tree fun Q E z Γ p hΓ => ?_
  have := z Γ p hΓ
  simpa only [Sem.wp_bind'] using this
theorem rNames_nm (N : NamesOK X) (ts : List Expr) : ∀ (ns : List Nat), rNames X.f ts = some ns → ∀ n ∈ ns, X.f (X.nm n) = some n := by
  induction ts with
  | nil => intro ns h; cases h; exact fun _ h => nomatch h
  | cons t ts ih =>
    intro ns h
    refine E4A4 (rNames_is h) fun x p n l e1 e2 h1 h2 => ?_
    subst e2
    exact List.forall_mem_cons.mpr ⟨by rw [← N.inj x _ h1]; exact h1, ih l h2⟩
theorem tgs_bind (X : Wd) (env : Env) : ∀ (ns : List Nat), (∀ n ∈ ns, X.f (X.nm n) = some n) → TgsOK X env ((ns.map X.nm).map fun n => bindName env n) ns
  | [], _ => .nil
  | n :: ns, h => .cons ⟨X.nm n, h n List.mem_cons_self, fun _ _ _ _ _ z => z⟩ (tgs_bind X env ns fun k hk => h k (List.mem_cons_of_mem _ hk))
theorem asgTT_snd (N : NamesOK X) (hE : SndE X cG T n) (hM : SndM X cG T n) (hA : AOK n A fs) (hV : EnvOK X env ks) (a : At X fs env ks loc ρ H s) (ts es : List Expr) (tk ek : Nat) (tp ep : Pos) (pos : Pos) (ns : List Nat) (rev : Bool) (hts : rNames X.f ts = some ns)
    (hr : revQ ks ns (ts.map (·.pos.line)) es = some rev) (hl : es.length = ns.length) (hst : es.any isStar = false) (hz : ns.length ≤ 1000) :
    JE X cG fs A (PySem.exec (.Assign [.Tuple ts tk tp] (.Tuple es ek ep) pos) env) (FlRel X env ks) (ownOf X env ks) ρ (exec T (n + 1) ks loc (.asgTT ns rev (erMus X.f m ns es)) H) s := by
  revert N hE hM hA hV a hts hr hl hst hz; revert X cG T fs A s ρ env ks loc H n m ts es tk ek tp ep pos ns rev
  refine @(eps22 (P := ?P) (dX, dN, dT, dG, dA, dS, dR, dE, dK, dL, dH, dN, dN, dl, dl, dN, dN, dp, dp, dp, (default : List Nat), dB) rfl ((?m : Pi22 ?P) _ _ _ _ _ _ _ _ _ _ _ _ _ _ _ _ _ _ _ _ _ _))
  intro X cG T fs A s ρ env ks loc H n m ts es tk ek tp ep pos ns rev N hE hM hA hV a hts hr hl hst hz
  refine E0A3 (tgs_ok X env ts ns hts) fun t1 t2 t3 => ?_
  rw [assign_tree _ _ _ _ (sole_plain _ _ _ _ rfl), swapped_is N hV hts hr]
  refine JE.stand (JE.assoc (JE.stand (JE.assoc ?_)))
  refine JE.val a (spliced_mus hE hM hA hV ep ns es hst hl a) fun vs H' ws s' ρ' x a' R S => ?_
  have fin : ∀ {us : List V} {xs : List Nat} {loc' : Loc} {ts' : List (Value → Sem Unit)} (g : List Value → List Value) (c : Nat), setLocs ks xs us loc = some loc' → TgsOK X env ts' xs → (∀ h, VRels X h ρ' vs ws → VRels X h ρ' us (g ws)) → c = ws.length → c ≤ 1000 →
      ∀ (tail : Value → Sem Flow), (∀ (v : Value) (Q : Flow → Shared → Prop) (E : Value → Shared → Prop) (s : Shared), wpAny X.M A (unpackItems v c none) (fun its s => wpAny X.M A (assignInOrder ts' (g its)) (fun _ => Q .next) E s) E s → wpAny X.M A (tail v) Q E s) →
      JE X cG fs A (newTuple ws >>= tail) (FlRel X env ks) (ownOf X env ks) ρ' (.ok (.next, loc') H') s' := by
    intro us xs loc' ts' g c hl' htg hg hc hc' tail htail
    refine JE.ok (wpAny_bind (wpAny_newTuple ?_ (by rw [sizeLine_eq]; lia)))
    have S1 := Step.push fs Wr0 s' (tupO ws.toArray 0) s'.toks
    have a1 := a'.keeps S1
    have R1 : VRels X (s'.heap.push (tupO ws.toArray 0)) ρ' vs ws := VRels.step (s' := { s' with heap := s'.heap.push (tupO ws.toArray 0), toks := s'.toks }) a'.inv.stk S1.of0 (Ext.refl _ _) R
    refine htail _ _ _ _ (items_any hA a1.inv (Heap.get?_push_size _ rfl) (by rw [hc]; simp) fun s2 S2 => ?_)
    have a2 := a1.keeps S2
    refine stores_any N hV htg a2 (VRels.step a1.inv.stk S2.of0 (Ext.refl _ _) (hg _ R1)) hl' fun s3 a3 S3 => ?_
    exact ⟨ρ', Ext.refl _ _, a3.inv, ⟨a3.fr, rfl⟩, (S1.mono fun _ z => z.elim).trans (W := fun a => ownOf X env ks a ∨ Wr ρ' a) ((S2.mono fun _ z => z.elim).trans (W := fun a => ownOf X env ks a ∨ Wr ρ' a) (S3.mono fun _ z => .inl z) fun _ _ z => z) fun _ _ z => z⟩
  have wl := R.length
  induction rev with
  | false =>
    rw [if_neg (show ¬ (false = true) by decide)]
    show JE X cG fs A _ _ _ _ (match setLocs ks ns vs loc with | some loc' => Mine.R.ok (Fl.next, loc') H' | Option.none => Mine.R.bad) _
    cases hl' : setLocs ks ns vs loc with
    | none => trivial
    | some loc' =>
      have l1 := setLocs_len hl'
      refine fin (fun x => x) ns.length hl' t1 (fun _ z => z) (by lia) hz _ fun v Q E s z => ?_
      rw [pure_bind, stores_none _ _ _ rfl, show assign (.Tuple ts tk tp) env v = (standAt tp >>= fun _ => unpack v (assignEach ts env)) from rfl]
      refine wpAny_bind (wpAny_bind (wpAny_standAt ?_))
      unfold unpack
      rw [t2, t3]
      exact wpAny_bind (wpAny_holding (wpAny_mono z (fun _ _ q => wpAny_mono q (fun _ _ q => wpAny_pure q) fun _ _ q => q) fun _ _ q => q))
  | true =>
    have tb := (tgs_bind X env ns (rNames_nm N ts ns hts)).reverse
    rw [if_pos rfl]
    show JE X cG fs A _ _ _ _ (match setLocs ks ns.reverse vs.reverse loc with | some loc' => Mine.R.ok (Fl.next, loc') H' | Option.none => Mine.R.bad) _
    cases hl' : setLocs ks ns.reverse vs.reverse loc with
    | none => trivial
    | some loc' =>
      have l1 := setLocs_len hl'
      rw [List.length_reverse, List.length_reverse] at l1
      refine fin (fun x => x.reverse) ns.length hl' tb (fun _ z => z.reverse) (by lia) hz _ fun v Q E s z => ?_
      rw [pure_bind]
      show wpAny X.M A (rule "assign.swapped-stores" >>= fun _ => unpackItems v (ns.map X.nm).length none >>= fun items => assignInOrder ((ns.map X.nm).reverse.map fun n => bindName env n) items.reverse >>= fun _ => pure .next) Q E s
      rw [List.length_map, List.map_reverse (f := fun n => bindName env n)]
      exact wpAny_bind (wpAny_rule (wpAny_bind (wpAny_mono z (fun _ _ q => wpAny_bind (wpAny_mono q (fun _ _ q => wpAny_pure q) fun _ _ q => q)) fun _ _ q => q)))
theorem tail_next {own : Addr → Prop} (a : At X fs env ks loc ρ H s) (vs : List Value) : JE X cG fs A (release vs [] >>= fun _ => Pure.pure Flow.next) (FlRel X env ks) own ρ (.ok (.next, loc) H) s := JE.release (JE.next (fl := .next) a rfl)
theorem asgA_snd (Fc : Facts X cG K T) (hE : SndE X cG T n) (hA : AOK n A fs) (hV : EnvOK X env ks) (a : At X fs env ks loc ρ H s) (o : Expr) (x : Str) (xp : Pos) (e : Expr) (pos : Pos) (k : Nat) (hx : X.f x = some k) (he : isComp e = false) :
    JE X cG fs A (PySem.exec (.Assign [.Attribute o x xp] e pos) env) (FlRel X env ks) (ownOf X env ks) ρ (exec T (n + 1) ks loc (.asgA (erE X.f m o) k (erE X.f m e)) H) s := by
  revert Fc hE hA hV a hx he; revert X cG T K fs A s ρ env ks loc H n m o x xp e pos k
  refine @(eps19 (P := ?P) (dX, dN, dT, df, dG, dA, dS, dR, dE, dK, dL, dH, dN, dN, de, ds, dp, de, dp) rfl ((?m : Pi19 ?P) _ _ _ _ _ _ _ _ _ _ _ _ _ _ _ _ _ _ _))
  intro X cG T K fs A s ρ env ks loc H n m o x xp e pos k Fc hE hA hV a hx he
  have hss : swappedStores [.Attribute o x xp] e env = pure none := by cases e <;> rfl
  rw [assign_tree _ _ _ _ (sole_plain _ _ _ _ he), Fc.N.inj x k hx] at *
  refine JE.stand ?_
  refine JE.val a (hE fs A env ks loc ρ H s m e hA hV a) fun v H' u s' ρ' z a' R S => ?_
  rw [hss, pure_bind, stores_none _ _ _ rfl]
  refine JE.assoc ?_
  refine JE.val a' (JE.holding (hE fs A env ks loc ρ' H' s' m o hA hV a')) fun ov H2 ow s2 ρ2 z2 a2 R2 S2 => ?_
  have Rv := a'.val z2 S2 R
  induction v with
  | loc => trivial
  | d d =>
  induction ov with
  | d => trivial
  | loc i =>
    refine E1A2 (R2) fun p hp hz2 => ?_; subst hz2; try clear R2
    dsimp only
    cases hi : H2[i]? with
    | none => trivial
    | some o1 =>
    induction o1 with
    | list => trivial
    | inst l =>
      refine JE.guard fun hg => ?_
      rw [Bool.and_eq_true, decide_eq_true_eq] at hg
      refine JE.assoc (JE.stand (JE.assoc ?_))
      exact JE.val (k := fun _ H => Mine.R.ok (Fl.next, loc) H) a2 (JE.holding (set_snd Fc.N Fc.C a2.inv hp hi hg.1 hg.2 Rv)) fun _ H3 _ s3 ρ3 z3 a3 _ S3 => tail_next a3 _
theorem setItem_raw {prog : Program} {w : World} {E : Value → Shared → Prop} {l : Addr} {items : Array Value} {c : Nat} {k : Int} {t : Tok} {v : Value} {Q : Unit → Shared → Prop} (hl : s.heap.get? l = some (lstO items c))
    (h0 : 0 ≤ k) (hfit : k < 2 ^ 63) (hn : k < items.size) (hQ : Q () { s with heap := s.heap.update l (Obj.mapSeq (·.setIfInBounds k.toNat v)) }) :
    wpAny (model prog w) A (setItem (.ref l) (.int k t) v) Q E s := by
  revert hl h0 hfit hn hQ; revert A s prog w E l items c k t v Q
  refine @(eps10 (P := ?P) (dA, dS, (default : PySem.Program), dW, dq, dN, (default : Array PySem.Value), dN, dI, (default : PySem.Tok)) rfl ((?m : Pi10 ?P) _ _ _ _ _ _ _ _ _ _))
  intro A s prog w E l items c k t v Q hl h0 hfit hn hQ
  have hl' : s.heap.IsList l items := ⟨_, hl, rfl, _, rfl⟩
  obtain ⟨o, ho, hc, ne, hd⟩ := id hl'
  unfold setItem
  try with_reducible refine wpAny_holding ?_
  first | refine wpAny_bind (wpAny_pure ?_) | skip
  refine wpAny_bind (wpAny_sequenceKey hl'.typeIs (by decide) ?_)
  refine wpAny_bind (wpAny_callSpecial?_slot (name := Str.ofString "__setitem__") hl'.typeIs slot_list_setitem
    (wpAny_call_entry slot_list_setitem hl'.typeIs entry_list_setitem ?_ (args_list_setitem _ _ _)))
  show wpAny _ _ (Builtin.List.listSubscript? (.int k t) >>= _) _ _ s
  refine wpAny_bind (wpAny_listSubscript_int (fitsIndex_of h0 hfit) ?_)
  clear hfit
  refine E1A1 (Int.eq_ofNat_of_zero_le h0) fun j hz1 => ?_; subst hz1
  have hj : j < items.size := by lia
  have hx' : items[j]? = some items[j] := Array.getElem?_eq_getElem hj
  show wpAny _ _ ((seqItemAt l j >>= fun r => pure (r.map (j, ·))) >>= _) _ _ s
  refine wpAny_bind (wpAny_bind (wpAny_seqItemAt ho hd (wpAny_pure ?_)))
  rw [hx']
  show wpAny _ _ (setSeqItemAt l j v >>= _) _ _ s
  refine wpAny_bind (wpAny_setSeqItemAt ho hd ?_)
  first
    | exact wpAny_bind (wpAny_pure (wpAny_pure ⟨.none, rfl, wpAny_pure hQ⟩))
    | exact wpAny_pure ⟨.none, rfl, wpAny_pure hQ⟩
theorem setItem_snd (I : Inv X fs ρ H s) {i : Nat} {p : Addr × Addr} {l : List D} {x : D} {v : Value} {k : Int} {t : Tok} (hp : ρ[i]? = some p) (hi : H[i]? = some (.list l)) (hx : DRel X s.heap ρ x v) (h0 : 0 ≤ k) (h1 : k < l.length) (h2 : k < 2 ^ 63) :
    JE X cG fs A (setItem (.ref p.1) (.int k t) v) (fun _ _ _ _ => True) own ρ (.ok () (H.set i (.list (l.set k.toNat x)))) s := by
  revert I hp hi hx h0 h1 h2; revert X cG fs A s ρ H own i p l x v k t
  refine @(eps13 (P := ?P) (dX, dN, dG, dA, dS, dR, dH, (default : PySem.Addr → Prop), dN, (default : PySem.Addr × PySem.Addr), du, dd, dV) rfl ((?m : Pi13 ?P) _ _ _ _ _ _ _ _ _ _ _ _ _))
  intro X cG fs A s ρ H own i p l x v k t I hp hi hx h0 h1 h2
  obtain ⟨e, its, n, g, r⟩ := I.rel.obj i p _ hp hi
  have el := r.length
  rw [Array.length_toList] at el
  have hs : Heap.SameBut p.1 s.heap (s.heap.update p.1 (Obj.mapSeq (·.setIfInBounds k.toNat v))) := Heap.SameBut.update ..
  have g' := IsL.update g (·.setIfInBounds k.toNat v)
  have S : Step fs (Wr ρ) s { s with heap := s.heap.update p.1 (Obj.mapSeq (·.setIfInBounds k.toNat v)), toks := s.toks } := Step.one _ (Wr.of1 hp) hs (fun o es n' q d => by rw [g] at q; cases q; cases d)
  refine setItem_raw g h0 h2 (by lia) ?_
  refine ⟨ρ, Ext.refl _ _, I.turn (k := s.toks) (o' := .list (l.set k.toNat x)) hp (.inl rfl) hs S ⟨e, _, _, g', ?_⟩, trivial, S.mono fun a z => .inr z⟩
  have := DRels.step I.stk S (Ext.refl _ _) r
  have hx' := DRel.step I.stk S (Ext.refl _ _) hx
  have := this.set k.toNat hx'
  simpa using this
theorem asgS_snd (hE : SndE X cG T n) (hA : AOK n A fs) (hV : EnvOK X env ks) (a : At X fs env ks loc ρ H s) (o i : Expr) (xp : Pos) (e : Expr) (pos : Pos) (he : isComp e = false) :
    JE X cG fs A (PySem.exec (.Assign [.Subscript o i xp] e pos) env) (FlRel X env ks) (ownOf X env ks) ρ (exec T (n + 1) ks loc (.asgS (erE X.f m o) (erE X.f m i) (erE X.f m e)) H) s := by
  revert hE hA hV a he; revert X cG T fs A s ρ env ks loc H n m o i xp e pos
  refine @(eps16 (P := ?P) (dX, dN, dT, dG, dA, dS, dR, dE, dK, dL, dH, dN, dN, de, de, dp) rfl ((?m : Pi16 ?P) _ _ _ _ _ _ _ _ _ _ _ _ _ _ _ _))
  intro X cG T fs A s ρ env ks loc H n m o i xp e pos hE hA hV a he
  have hss : swappedStores [.Subscript o i xp] e env = pure none := by cases e <;> rfl
  rw [assign_tree _ _ _ _ (sole_plain _ _ _ _ he)]
  refine JE.stand ?_
  refine JE.val a (hE fs A env ks loc ρ H s m e hA hV a) fun v H' u s' ρ' z a' R S => ?_
  rw [hss, pure_bind, stores_none _ _ _ rfl]
  obtain ⟨rl, hrl⟩ : ∃ rl : Value → Value → List Value, assign (.Subscript o i xp) env u = (holding [u] (eval o env) >>= fun ov => holding [u, ov] (eval i env) >>= fun iv => standAt xp >>= fun _ => holding [u, ov, iv] (setItem ov iv u) >>= fun _ => release (rl ov iv) []) := ⟨_, rfl⟩
  rw [hrl]
  refine JE.assoc ?_
  refine JE.val a' (JE.holding (hE fs A env ks loc ρ' H' s' m o hA hV a')) fun ov H2 ow s2 ρ2 z2 a2 R2 S2 => ?_
  have Rv := a'.val z2 S2 R
  refine JE.assoc ?_
  refine JE.val a2 (JE.holding (hE fs A env ks loc ρ2 H2 s2 m i hA hV a2)) fun iv H3 iw s3 ρ3 z3 a3 R3 S3 => ?_
  have Rv := a2.val z3 S3 Rv
  have Ro := a2.val z3 S3 R2
  induction v with
  | loc => trivial
  | d d =>
  induction ov with
  | d => trivial
  | loc j =>
  induction iv with
  | loc => trivial
  | d xi =>
  cases xi with
  | int k =>
    refine E1A2 (Ro) fun p hp hz2 => ?_; subst hz2; try clear Ro
    refine E1A1 (VRel.int R3) fun t hz1 => ?_; subst hz1
    dsimp only
    cases hi : H3[j]? with
    | none => trivial
    | some o1 =>
    induction o1 with
    | inst => trivial
    | list l =>
      refine JE.guard fun hg => ?_
      rw [Bool.and_eq_true, Bool.and_eq_true, decide_eq_true_eq, decide_eq_true_eq, decide_eq_true_eq] at hg
      refine JE.assoc (JE.stand (JE.assoc ?_))
      exact JE.val (k := fun _ H => Mine.R.ok (Fl.next, loc) H) a3 (JE.holding (setItem_snd a3.inv hp hi Rv hg.1.1 hg.1.2 hg.2)) fun _ H4 _ s4 ρ4 z4 a4 _ S4 => tail_next a4 _
  | _ => trivial
theorem aug_snd (I : Inv X fs ρ H s) (op : Operator) {va vb : V} {a b : Value} (ha : VRel X s.heap ρ va a) (hb : VRel X s.heap ρ vb b) : JE X cG fs A (inplaceOp op a b) (VRel X) own ρ (augV op va vb H) s := by
  cases op with
  | Add => exact int2_snd (t := inplaceOp .Add) ha hb fun x y p q => JE.of0 I (iadd_int ⟨Step.tok _ _ _ _, _, rfl⟩)
  | Sub => exact int2_snd (t := inplaceOp .Sub) ha hb fun x y p q => JE.of0 I (isub_int ⟨Step.tok _ _ _ _, _, rfl⟩)
  | _ => trivial
noncomputable def augK (loc : Loc) (k i : Nat) (w : V) (H : Hp) : Mine.R (Fl × Loc) := match w, H[i]? with
  | .d x, some (.inst fs) => R.guard (decide (fs.length < 100)) (.ok (.next, loc) (H.set i (.inst (setField fs k x))))
  | _, _ => .bad
theorem augA_snd (Fc : Facts X cG K T) (hE : SndE X cG T n) (hA : AOK n A fs) (hV : EnvOK X env ks) (a : At X fs env ks loc ρ H s) (o : Expr) (x : Str) (xp : Pos) (op : Operator) (e : Expr) (pos : Pos) (k : Nat) (hx : X.f x = some k) :
    JE X cG fs A (PySem.exec (.AugAssign (.Attribute o x xp) op e pos) env) (FlRel X env ks) (ownOf X env ks) ρ (exec T (n + 1) ks loc (.augA (erE X.f m o) k op (erE X.f m e)) H) s := by
  revert Fc hE hA hV a hx; revert X cG T K fs A s ρ env ks loc H n m o x xp op e pos k
  refine @(eps19 (P := ?P) (dX, dN, dT, df, dG, dA, dS, dR, dE, dK, dL, dH, dN, dN, de, ds, dp, (default : PySem.Operator), de) rfl ((?m : Pi19 ?P) _ _ _ _ _ _ _ _ _ _ _ _ _ _ _ _ _ _ _))
  intro X cG T K fs A s ρ env ks loc H n m o x xp op e pos k Fc hE hA hV a hx
  rw [arm_exec_AugAssign_2, Fc.N.inj x k hx]
  refine JE.stand ?_
  refine JE.val a (hE fs A env ks loc ρ H s m o hA hV a) fun ov H1 ow s1 ρ1 z1 a1 R1 S1 => ?_
  induction ov with
  | d => trivial
  | loc i =>
    refine E1A2 (R1) fun p hp hz2 => ?_; subst hz2; try clear R1
    dsimp only
    cases hi : H1[i]? with
    | none => trivial
    | some o1 =>
    induction o1 with
    | list => trivial
    | inst l =>
      dsimp only
      cases hd : l.lookup k with
      | none => trivial
      | some d =>
        refine JE.guard fun hg => ?_
        rw [Bool.and_eq_true, decide_eq_true_eq] at hg
        have inner : JE X cG fs A (holding [.ref p.1] (standAt xp.atName >>= fun _ => getAttr (.ref p.1) (X.nm k) true >>= fun old => holding [old] (eval e env) >>= fun v => standAt pos >>= fun _ => operate [old, v] (inplaceOp op old v))) (VRel X) noOwn ρ1
            ((evalE T n ks loc (erE X.f m e) H1).bind fun v H => augV op (.d d) v H) s1 := by
          refine JE.holding (JE.stand ?_)
          have q := JE.val (k := fun x H => (evalE T n ks loc (erE X.f m e) H).bind fun v H => augV op x v H) (f := fun old => holding [old] (eval e env) >>= fun v => standAt pos >>= fun _ => operate [old, v] (inplaceOp op old v)) (Rel := VRel X) (own := noOwn) a1 (attr_snd (b := true) (cG := cG) (A := A) (own := noOwn) Fc.N Fc.C a1.inv hp hi hd hg.1) fun ov H2 ow s2 ρ2 z2 a2 R2 S2 => by
            refine JE.val a2 (JE.holding (hE fs A env ks loc ρ2 H2 s2 m e hA hV a2)) fun v H3 w s3 ρ3 z3 a3 R3 S3 => JE.stand (JE.operate ?_)
            exact aug_snd a3.inv op (a2.val z3 S3 R2) R3
          exact q
        show JE X cG fs A _ _ _ _ ((evalE T n ks loc (erE X.f m e) H1).bind fun v H => (augV op (.d d) v H).bind fun w H => augK loc k i w H) _
        have reb : ((evalE T n ks loc (erE X.f m e) H1).bind fun v H => (augV op (.d d) v H).bind fun w H => augK loc k i w H) = ((evalE T n ks loc (erE X.f m e) H1).bind fun v H => augV op (.d d) v H).bind fun w H => augK loc k i w H := by
          cases evalE T n ks loc (erE X.f m e) H1 <;> rfl
        rw [reb]
        refine JE.val a1 inner fun w H4 u s4 ρ4 z4 a4 R4 S4 => ?_
        induction w with
        | loc => trivial
        | d x =>
        delta augK
        cases hi' : H4[i]? with
        | none => trivial
        | some o2 =>
        induction o2 with
        | list => trivial
        | inst l' =>
          refine JE.guard fun hz => JE.stand ?_
          exact JE.val (k := fun _ H => Mine.R.ok (Fl.next, loc) H) a4 (JE.holding (set_snd Fc.N Fc.C a4.inv (z4.get hp) hi' hg.1 (of_decide_eq_true hz) R4)) fun _ H5 _ s5 ρ5 z5 a5 _ S5 => tail_next a5 _
theorem ret_snd {r : R V} (a : At X fs env ks loc ρ H s) (e : Expr) (pos : Pos) (h : JE X cG fs A (eval e env) (VRel X) noOwn ρ r s) :
    JE X cG fs A (PySem.exec (.Return (some e) pos) env) (FlRel X env ks) (ownOf X env ks) ρ (r.bind fun v H => .ok (.ret v, loc) H) s := by
  show JE X cG fs A (standAt pos >>= fun _ => eval e env >>= fun v => Pure.pure (Flow.ret v)) _ _ _ _ _
  exact JE.stand (JE.val a h fun v H' u s' ρ' z a' R S => JE.next (fl := .ret v) a' ⟨u, rfl, R⟩)
theorem ifS_snd (hT : SndT X cG T n) (hX : SndX X cG T n) (hA : AOK n A fs) (hV : EnvOK X env ks) (hf : env.frame = some env.locals) (hh : fs.head? = some env) (a : At X fs env ks loc ρ H s) (t : Expr) (b o : List Stmt) (pos : Pos) :
    JE X cG fs A (PySem.exec (.If t b o pos) env) (FlRel X env ks) (ownOf X env ks) ρ (exec T (n + 1) ks loc (.ifS (erE X.f m t) (b.map (erS X.f ks m)) (o.map (erS X.f ks m))) H) s := by
  rw [arm_exec_If]
  refine JE.stand (JE.val a (hT fs A env ks loc ρ H s m t hA hV a) fun c H' w s' ρ' z a' R S => ?_)
  cases R
  cases c
  · exact execs_snd hX hA hV hf hh o a'
  · exact execs_snd hX hA hV hf hh b a'
end
end Mine
end
section
namespace Mine
open PySem PySem.Calls PyProof.Rows PySem.W
noncomputable def ItRel (h : Heap) (it : Addr) (v : V) (w : Value) (i : Nat) : Prop := ∃ o vs, h.get? it = some o ∧ o.data = .fields vs ∧ o.cls ≠ .type "range" ∧ match v with
  | .d (.tup _) => ∃ t, w = .ref t ∧ o.cls = .type "tuple_iterator" ∧ vs = #[.ref t, .int i 0]
  | .d (.list _) => ∃ t, w = .ref t ∧ o.cls = .type "list_iterator" ∧ vs = #[.ref t, .int i 0]
  | .loc _ => ∃ t, w = .ref t ∧ o.cls = .type "list_iterator" ∧ vs = #[.ref t, .int i 0]
  | .d (.str x) => ∃ t, w = .str x t ∧ o.cls = .type "str_ascii_iterator" ∧ vs = #[.str x t, .int i 0]
  | .d (.rng n) => o = { cls := .type "range_iterator", data := .fields #[rawInt i, rawInt (if (i : Int) < n then n - i else 0), rawInt 1] }
  | _ => False
section
variable {X : Wd} {cG : Addr} {T : Tab} {K : Frag} {fs : List Env} {A : Around} {s s0 s1 s' : Shared} {ρ ρ' : Rho} {env : Env} {ks : Ks} {loc : Loc} {H H' : Hp} {n m : Nat} {own : Addr → Prop}
theorem R.bind_ok {α β : Type} {x : R α} {f : α → Hp → R β} {b : β} {H' : Hp} (h : x.bind f = .ok b H') : ∃ a H1, x = .ok a H1 ∧ f a H1 = .ok b H' := by
  induction x with
  | ok a H1 => exact ⟨a, H1, rfl, h⟩
  | exc => cases h
  | bad => cases h
theorem JE.get {α β : Type} {t : Sem α} {r : R β} {b : β} {Rel : Heap → Rho → β → α → Prop} (h : JE X cG fs A t Rel own ρ r s) (e : r = .ok b H') :
    wpAny X.M A t (JOk X fs own ρ s Rel b H') (fun _ _ => False) s := by
  subst e; exact h
theorem JE.only {α β : Type} {t : Sem α} {r : R β} {Rel : Heap → Rho → β → α → Prop} (h : ∀ b H', r = .ok b H' → JE X cG fs A t Rel own ρ (.ok b H') s) : JE X cG fs A t Rel own ρ r.only s := by
  induction r with
  | ok b H' => exact h b H' rfl
  | exc => trivial
  | bad => trivial
theorem iter_any (I : Inv X fs ρ H s) {E : Value → Shared → Prop} {v : V} {w : Value} (hn : nextItem H v 0 ≠ none) (hv : VRel X s.heap ρ v w) {Q : Value → Shared → Prop}
    (h : ∀ s', Step fs Wr0 s s' → ItRel s'.heap s.heap.objs.size v w 0 → s'.toks = s.toks → Q (.ref s.heap.objs.size) s') : wpAny X.M A (pyIter w) Q E s := by
  revert I hn hv h; revert X fs A s ρ H E v w Q
  refine @(eps10 (P := ?P) (dX, dG, dA, dS, dR, dH, dq, dv, dV, dq) rfl ((?m : Pi10 ?P) _ _ _ _ _ _ _ _ _ _))
  intro X fs A s ρ H E v w Q I hn hv h
  induction v with
  | loc j =>
    refine E1A2 (hv) fun p hp hz2 => ?_; subst hz2; try clear hv
    refine (Option.ne_none_iff_exists'.mp hn).elim fun r0 hn => ?_
    refine E1A2 (nextItem_loc hn) fun l hj _ => ?_
    refine E2A2 (I.rel.obj j p _ hp hj).2 fun its k g r => ?_
    exact wpAny_pyIter_list ⟨_, g, rfl, _, rfl⟩ (h _ (Step.push _ _ _ _ _) ⟨_, _, Heap.get?_push_size _ rfl, rfl, by simp, _, rfl, rfl, rfl⟩ rfl)
  | d x =>
    cases x with
    | tup l =>
      refine E3A4 (hv) fun t its k hz3 g _ r => ?_; subst hz3; try clear hv
      exact wpAny_pyIter_tuple ⟨_, g, rfl, _, rfl⟩ (h _ (Step.push _ _ _ _ _) ⟨_, _, Heap.get?_push_size _ rfl, rfl, by simp, _, rfl, rfl, rfl⟩ rfl)
    | list l =>
      refine E3A4 (hv) fun t its k hz3 g _ r => ?_; subst hz3; try clear hv
      exact wpAny_pyIter_list ⟨_, g, rfl, _, rfl⟩ (h _ (Step.push _ _ _ _ _) ⟨_, _, Heap.get?_push_size _ rfl, rfl, by simp, _, rfl, rfl, rfl⟩ rfl)
    | str x =>
      refine E1A1 (hv) fun t hz1 => ?_; subst hz1; try clear hv
      refine (Option.ne_none_iff_exists'.mp hn).elim fun r0 hn => ?_
      have ha := (iteN (show (if x.cps.all (· < 128) = true then some _ else Option.none) = some r0 from hn)).1
      exact wpAny_pyIter_ascii ha (h _ (Step.push _ _ _ _ _) ⟨_, _, Heap.get?_push_size _ rfl, rfl, by simp, _, rfl, rfl, rfl⟩ rfl)
    | rng n =>
      refine E4A3 (hv) fun a t u w hz4 g _ => ?_; subst hz4; try clear hv
      refine (Option.ne_none_iff_exists'.mp hn).elim fun r0 hn => ?_
      have hb := (iteN (show (if (decide (0 ≤ n) && decide (n ≤ 1000000)) = true then some _ else Option.none) = some r0 from hn)).1
      rw [Bool.and_eq_true, decide_eq_true_eq, decide_eq_true_eq] at hb
      refine wpAny_pyIter_range g ?_ (h _ (Step.push _ _ _ _ _) ⟨_, _, Heap.get?_push_size _ rfl, rfl, by simp, ?_⟩ rfl)
      · have hs : Builtin.Range.rangeSize 0 n 1 = n := by
          unfold Builtin.Range.rangeSize
          rw [if_pos (by decide)]
          split <;> lia
        unfold Builtin.Range.small
        rw [hs]
        simp only [Builtin.Range.rangeFitsLong, Bool.and_eq_true, Bool.or_eq_true, decide_eq_true_eq]
        refine ⟨⟨⟨⟨?_, ?_⟩, ?_⟩, ?_⟩, .inr ?_⟩
        all_goals first | decide | (rw [if_pos (by decide)]; simp only [Bool.and_eq_true, decide_eq_true_eq]; lia) | lia
      · have hs : Builtin.Range.rangeSize 0 n 1 = if ((0 : Nat) : Int) < n then n - ((0 : Nat) : Int) else 0 := by
          unfold Builtin.Range.rangeSize
          rw [if_pos (by decide)]
          split <;> split <;> lia
        rw [hs]; rfl
    | none => exact absurd rfl hn
    | bool _ => exact absurd rfl hn
    | int _ => exact absurd rfl hn
    | gv _ => exact absurd rfl hn
theorem next_any (hA : AOK n A fs) (I : Inv X fs ρ H s) {E : Value → Shared → Prop} {it : Addr} {v : V} {w : Value} {i : Nat} {r : Option D} (hn : nextItem H v i = some r) (hv : VRel X s.heap ρ v w) (hi : ItRel s.heap it v w i) {Q : Option Value → Shared → Prop}
    (h0 : r = none → ∀ s', Step fs (· = it) s s' → Q none s')
    (h1 : ∀ d, r = some d → ∀ u s', Step fs (· = it) s s' → DRel X s.heap ρ d u → ItRel s'.heap it v w (i + 1) → Q (some u) s') : wpAny X.M A (pyNext (.ref it)) Q E s := by
  revert hA I hn hv hi h0 h1; revert X fs A s ρ H n E it v w i r Q
  refine @(eps13 (P := ?P) (dX, dG, dA, dS, dR, dH, dN, dq, dN, dv, dV, dN, (default : Option Mine.D)) rfl ((?m : Pi13 ?P) _ _ _ _ _ _ _ _ _ _ _ _ _))
  intro X fs A s ρ H n E it v w i r Q hA I hn hv hi h0 h1
  refine E2A4 (hi) fun o vs g hd hc hm => ?_; try clear hi
  have one : ∀ {h' : Heap} {k : Nat}, Heap.SameBut it s.heap h' → Step fs (· = it) s { s with heap := h', toks := k } := fun hs => Step.one _ rfl hs fun o' es n e q => by rw [g] at e; cases e; rw [hd] at q; cases q
  have fin : (∀ Q' : Option Value → Shared → Prop, (∀ h', Heap.ExtBut it s.heap h' → Q' none { s with heap := h' }) → wpAny X.M A (pyNext (.ref it)) Q' E s) → r = none → wpAny X.M A (pyNext (.ref it)) Q E s := fun z e => by
    refine sized (z _ fun h' hx hs => h0 e _ ⟨rfl, rfl, hs, fun a o e n => ⟨o.slots, hx a o n e, .inl rfl⟩, fun a o es n e q => ?_⟩)
    have ne : a ≠ it := fun q' => by subst q'; rw [g] at e; cases e; rw [hd] at q; cases q
    exact ⟨o, es, n, hx a o ne e, q⟩
  have lst : ∀ {t : Addr} {its : Array Value} {c : Nat} {l : List D}, s.heap.get? t = some (lstO its c) → DRels X s.heap ρ l its.toList → r = l[i]? → o.cls = .type "list_iterator" → vs = #[.ref t, .int i 0] →
      (∀ h', h'.IsListIter it t (i + 1) → ItRel h' it v w (i + 1)) → wpAny X.M A (pyNext (.ref it)) Q E s := by
    intro t its c l gt rl er hcl hvs hnx
    have hli : s.heap.IsListIter it t i := ⟨o, g, hcl, by rw [hd, hvs]⟩
    cases q : l[i]? with
    | none =>
      have : its[i]? = none := by
        rw [Array.getElem?_eq_none_iff]
        have e := rl.length
        rw [Array.length_toList] at e
        exact e ▸ List.getElem?_eq_none_iff.mp q
      exact fin (fun Q' z => wpAny_pyNext_list_end hA.handled hli ⟨_, gt, rfl, _, rfl⟩ this z) (er.trans q)
    | some d =>
      refine E1A2 (rl.get q) fun u hu R => ?_
      rw [Array.getElem?_toList] at hu
      exact wpAny_pyNext_list_item hli ⟨_, gt, rfl, _, rfl⟩ hu fun h' hit hs => h1 d (er.trans q) u _ (one (k := s.toks) hs) R (hnx _ hit)
  induction v with
  | loc j =>
    refine E1A3 (hm) fun t hz1 hcl hvs => ?_; subst hz1; try clear hm
    refine E1A2 (hv) fun p hp e => ?_; try clear hv
    cases e
    refine E1A2 (nextItem_loc hn) fun l hj er => ?_
    refine E2A2 (I.rel.obj j p _ hp hj).2 fun its k gt rl => ?_
    exact lst gt rl er hcl hvs fun h' ⟨o', g', c', d'⟩ => ⟨o', _, g', d', by rw [c']; simp, _, rfl, c', rfl⟩
  | d x =>
    cases x with
    | tup l =>
      refine E1A3 (hm) fun t hz1 hcl hvs => ?_; subst hz1; try clear hm
      refine E3A4 (hv) fun t' its k e gt _ rl => ?_; try clear hv
      cases e
      cases hn
      have hli : s.heap.IsTupleIter it t i := ⟨o, g, hcl, by rw [hd, hvs]⟩
      cases q : l[i]? with
      | none =>
        have : its[i]? = none := by
          rw [Array.getElem?_eq_none_iff]
          have e := rl.length
          rw [Array.length_toList] at e
          exact e ▸ List.getElem?_eq_none_iff.mp q
        exact fin (fun Q' z => wpAny_pyNext_tuple_end hA.handled hli ⟨_, gt, rfl, _, rfl⟩ this z) q
      | some d =>
        refine E1A2 (rl.get q) fun u hu R => ?_
        rw [Array.getElem?_toList] at hu
        exact wpAny_pyNext_tuple_item hli ⟨_, gt, rfl, _, rfl⟩ hu fun h' ⟨o', g', c', d'⟩ hs => h1 d q u _ (one (k := s.toks) hs) R ⟨o', _, g', d', by rw [c']; simp, _, rfl, c', rfl⟩
    | list l =>
      refine E1A3 (hm) fun t hz1 hcl hvs => ?_; subst hz1; try clear hm
      refine E3A4 (hv) fun t' its k e gt _ rl => ?_; try clear hv
      cases e
      cases hn
      exact lst gt rl rfl hcl hvs fun h' ⟨o', g', c', d'⟩ => ⟨o', _, g', d', by rw [c']; simp, _, rfl, c', rfl⟩
    | str x =>
      refine E1A3 (hm) fun t hz1 hcl hvs => ?_; subst hz1; try clear hm
      have er := (iteN (show (if x.cps.all (· < 128) = true then some (x.cps[i]?.map fun c => D.str ⟨#[c]⟩) else Option.none) = some r from hn)).2
      have hli : s.heap.IsStrIter it "str_ascii_iterator" x t i := ⟨o, g, hcl, by rw [hd, hvs]⟩
      cases q : x.cps[i]? with
      | none => exact fin (fun Q' z => wpAny_pyNext_ascii_end hA.handled hli q z) (by rw [← er, q]; rfl)
      | some c =>
        exact wpAny_pyNext_ascii_item hli q fun h' ⟨o', g', c', d'⟩ hs => h1 (.str ⟨#[c]⟩) (by rw [← er, q]; rfl) _ _ (one hs) ⟨_, rfl⟩ ⟨o', _, g', d', by rw [c']; simp, _, rfl, c', rfl⟩
    | rng n =>
      subst hm
      have er := (iteN (show (if (decide (0 ≤ n) && decide (n ≤ 1000000)) = true then some (if (i : Int) < n then some (D.int i) else Option.none) else Option.none) = some r from hn)).2
      subst er
      by_cases q : (i : Int) < n
      · rw [if_pos q] at g h1
        refine wpAny_pyNext_range_item g (by lia) fun h' hit hs => h1 (.int i) rfl _ _ (one hs) ⟨_, rfl⟩ ⟨_, _, hit, rfl, by simp, ?_⟩
        have e : (n - (i : Int) - 1) = if ((i + 1 : Nat) : Int) < n then n - ((i + 1 : Nat) : Int) else 0 := by split <;> lia
        show ({ cls := .type "range_iterator", data := .fields #[rawInt ((i : Int) + 1), rawInt (n - (i : Int) - 1), rawInt 1] } : Obj) = { cls := .type "range_iterator", data := .fields #[rawInt ((i + 1 : Nat) : Int), rawInt (if ((i + 1 : Nat) : Int) < n then n - ((i + 1 : Nat) : Int) else 0), rawInt 1] }
        rw [← e]; rfl
      · rw [if_neg q] at g
        exact fin (fun Q' z => wpAny_pyNext_range_end hA.handled g (Int.le_refl 0) z) (by rw [if_neg q])
    | none => exact hm.elim
    | bool _ => exact hm.elim
    | int _ => exact hm.elim
    | gv _ => exact hm.elim
theorem ItRel.at {h h' : Heap} {it : Addr} {v : V} {w : Value} {i : Nat} (x : ItRel h it v w i) (k : ∀ o, h.get? it = some o → ¬ (∃ es n, o.data = .dict es n) → ¬ Solid o → h'.get? it = some o) : ItRel h' it v w i := by
  refine E2A4 (x) fun o vs g d c m => ?_; try clear x
  refine ⟨o, vs, k o g (by rw [d]; rintro ⟨_, _, q⟩; cases q) ?_, d, c, m⟩
  rintro (⟨_, _, rfl⟩ | ⟨_, _, rfl⟩ | ⟨q, _⟩)
  · cases d
  · cases d
  · exact c q
structure Went (X : Wd) (fs : List Env) (own : Addr → Prop) (ρ : Rho) (s : Shared) (ρ1 : Rho) (s1 : Shared) : Prop where
  ext : Ext ρ s.heap.objs.size ρ1
  step : Step fs (fun a => own a ∨ Wr ρ a ∨ s.heap.objs.size ≤ a) s s1
theorem Went.refl (X : Wd) (fs : List Env) (own : Addr → Prop) (ρ : Rho) (s : Shared) : Went X fs own ρ s ρ s := ⟨Ext.refl _ _, Step.refl _ _ _⟩
theorem Went.next {ρ1 ρ2 : Rho} {s2 : Shared} {W : Addr → Prop} (w : Went X fs own ρ s ρ1 s1) (e : Ext ρ1 s1.heap.objs.size ρ2) (S : Step fs W s1 s2) (hW : ∀ a, a < s.heap.objs.size → W a → own a ∨ Wr ρ1 a) : Went X fs own ρ s ρ2 s2 :=
  ⟨w.ext.trans e w.step.size, w.step.trans (W' := W) S fun a l q => (hW a l q).imp (fun z => z) fun z => .inl ((w.ext.old l).mp z)⟩
theorem Went.fin {ρ1 : Rho} (w : Went X fs own ρ s ρ1 s1) : Step fs (fun a => own a ∨ Wr ρ a) s s1 :=
  ⟨w.step.gens, w.step.os, w.step.size, fun a o e n => w.step.keep a o e fun q => by
    rcases q with q | q | q
    · exact n (.inl q)
    · exact n (.inr q)
    · exact absurd (Heap.lt_size e) (Nat.not_lt.mpr q), w.step.flat⟩
theorem own_soft (a : At X fs env ks loc ρ H s) {b : Addr} (h : ownOf X env ks b) {o : Obj} (g : s.heap.get? b = some o) : ∀ vs, o.data ≠ .fields vs := by
  intro vs q
  rcases h with rfl | ⟨k, hk, hc⟩
  · refine E1A2 (a.fr.ns) fun mm hn' _ => ?_
    refine E3A3 (hn') fun o' es ep g' d _ => ?_; try clear hn'
    rw [g'] at g; cases g
    rw [d] at q; cases q
  · refine E3A5 (a.fr.cel k (.inl hk)) fun c o' cv e1 e2 e3 e4 _ => ?_
    rw [hc] at e1; cases e1
    rw [e2] at g; cases g
    rw [e3] at q; cases q
theorem At.go (a : At X fs env ks loc ρ H s) (S : Step fs (fun b => ownOf X env ks b ∨ Wr ρ b) s s') (e : Ext ρ s.heap.objs.size ρ') {v : V} {w : Value} (h : VRel X s.heap ρ v w) : VRel X s'.heap ρ' v w := by
  have k : ∀ b o, s.heap.get? b = some o → ¬ Wr ρ b → Solid o → s'.heap.get? b = some o ∧ ¬ Wr ρ' b := by
    intro b o g n so
    refine ⟨S.get a.inv.stk g (fun q => ?_) so.flat.1, fun q => n ((e.old (Heap.lt_size g)).mp q)⟩
    rcases q with q | q
    · rcases q with rfl | ⟨j, hj, hc⟩
      · refine E1A2 (a.fr.ns) fun mm hn' _ => ?_
        refine E3A3 (hn') fun o' es ep g' d _ => ?_; try clear hn'
        rw [g'] at g; cases g
        exact so.flat.1 _ _ d
      · refine E3A5 (a.fr.cel j (.inl hj)) fun c o' cv e1 e2 e3 e4 _ => ?_
        rw [hc] at e1; cases e1
        rw [e2] at g; cases g
        exact so.flat.2 _ e3
    · exact n q
  induction v with
  | d x => exact DRel.mono k h
  | loc i => obtain ⟨p, hp, q⟩ := h; exact ⟨p, e.get hp, q⟩
inductive WhI (X : Wd) (fs : List Env) (env : Env) (ks : Ks) (ρ : Rho) (s : Shared) (ft : Loc → Hp → R Bool) (fb : Loc → Hp → R (Fl × Loc)) (r : R (Fl × Loc)) (k : Nat) (s1 : Shared) : Prop
  | intro (ρ1 : Rho) (loc1 : Loc) (H1 : Hp) (w : Went X fs (ownOf X env ks) ρ s ρ1 s1) (a : At X fs env ks loc1 ρ1 H1 s1) (e : whileL ft fb k loc1 H1 = r)
theorem while_core {ft : Loc → Hp → R Bool} {fb : Loc → Hp → R (Fl × Loc)} {t : Expr} {b : List Stmt} {pos : Pos}
    (hC : ∀ {loc1 : Loc} {ρ1 : Rho} {H1 : Hp} {s1 : Shared}, At X fs env ks loc1 ρ1 H1 s1 → JE X cG fs A (isTrue t env (eval t env)) BRel noOwn ρ1 (ft loc1 H1) s1)
    (hB : ∀ {loc1 : Loc} {ρ1 : Rho} {H1 : Hp} {s1 : Shared}, At X fs env ks loc1 ρ1 H1 s1 → JE X cG fs A (execs b env) (FlRel X env ks) (ownOf X env ks) ρ1 (fb loc1 H1) s1)
    (a : At X fs env ks loc ρ H s) : JE X cG fs A (PySem.exec (.While t b [] pos) env) (FlRel X env ks) (ownOf X env ks) ρ (whileL ft fb LK loc H).only s := by
  revert hC hB a; revert X cG fs A s ρ env ks loc H ft fb t b pos
  refine @(eps13 (P := ?P) (dX, dN, dG, dA, dS, dR, dE, dK, dL, dH, (fun _ _ => .bad : Mine.Loc → Mine.Hp → Mine.R Bool), (fun _ _ => .bad : Mine.Loc → Mine.Hp → Mine.R (Mine.Fl × Mine.Loc)), de) rfl ((?m : Pi13 ?P) _ _ _ _ _ _ _ _ _ _ _ _ _))
  intro X cG fs A s ρ env ks loc H ft fb t b pos hC hB a
  refine JE.only fun res H' hr => JE.ok ?_
  generalize hQ : JOk X fs (ownOf X env ks) ρ s (FlRel X env ks) res H' = Q
  have fin : ∀ {f : Flow} {s' : Shared}, JOk X fs (ownOf X env ks) ρ s (FlRel X env ks) res H' f s' → Q f s' := by rw [← hQ]; exact id
  clear hQ
  refine wpAny_While ?_
  refine codeAny_loop' (M := model X.prog X.w) rfl (WhI X fs env ks ρ s ft fb (.ok res H')) (fun k s1 hI => ?_) LK ⟨ρ, loc, H, Went.refl _ _ _ _ _, a, hr⟩
  clear hr a
  obtain ⟨ρ1, loc1, H1, w1, a1, e1⟩ := hI
  show wpAny _ A ((whileTurn t b [] env).onRaise (fun x => do noteFrame x env; theTreesLotGoes x)) _ _ s1
  refine wpAny_noted ?_
  cases k with
  | zero => cases e1
  | succ k =>
    refine E2A2 (R.bind_ok e1) fun c H2 e2 e3 => ?_
    clear e1
    unfold whileTurn
    refine wpAny_bind (wpAny_mono (JE.get (hC a1) e2) (fun c' s2 z => ?_) fun _ _ z => z.elim)
    obtain ⟨ρ2, x2, I2, R2, S2⟩ := z
    have a2 := a1.next x2 I2 S2
    have w2 := w1.next x2 S2 fun a l q => q.elim (fun z => z.elim) .inr
    clear w1 a1 e2
    cases R2
    induction c with
    | false =>
      cases e3
      exact wpAny_bind (wpAny_pure (wpAny_pure (fin ⟨ρ2, w2.ext, I2, ⟨a2.fr, rfl⟩, w2.fin⟩)))
    | true =>
      refine E2A2 (R.bind_ok e3) fun x H3 e4 e5 => ?_
      refine wpAny_bind (wpAny_mono (JE.get (hB a2) e4) (fun f s3 z => ?_) fun _ _ z => z.elim)
      obtain ⟨ρ3, x3, I3, R3, S3⟩ := z
      have w3 := w2.next x3 S3 fun a l q => q
      clear w2 a2 e4 e3
      obtain ⟨fl, loc3⟩ := x
      refine E0A2 (R3) fun F3 z => ?_; try clear R3
      induction fl with
      | next => cases z; exact wpAny_pure (.inl ⟨rfl, k, Nat.lt_succ_self k, ρ3, loc3, H3, w3, ⟨I3, F3⟩, e5⟩)
      | cont => cases z; exact wpAny_pure (.inl ⟨rfl, k, Nat.lt_succ_self k, ρ3, loc3, H3, w3, ⟨I3, F3⟩, e5⟩)
      | brk => cases z; cases e5; exact wpAny_pure (fin ⟨ρ3, w3.ext, I3, ⟨F3, rfl⟩, w3.fin⟩)
      | ret v =>
        refine E1A2 (z) fun u hz1 z => ?_; subst hz1; try clear z
        cases e5
        exact wpAny_pure (fin ⟨ρ3, w3.ext, I3, ⟨F3, u, rfl, z⟩, w3.fin⟩)
theorem while_snd (hT : SndT X cG T n) (hX : SndX X cG T n) (hA : AOK n A fs) (hV : EnvOK X env ks) (hf : env.frame = some env.locals) (hh : fs.head? = some env) (a : At X fs env ks loc ρ H s) (t : Expr) (b : List Stmt) (pos : Pos) :
    JE X cG fs A (PySem.exec (.While t b [] pos) env) (FlRel X env ks) (ownOf X env ks) ρ (exec T (n + 1) ks loc (.whl (erE X.f m t) (b.map (erS X.f ks m))) H) s := by
  have hB : ∀ {loc1 : Loc} {ρ1 : Rho} {H1 : Hp} {s1 : Shared}, At X fs env ks loc1 ρ1 H1 s1 → JE X cG fs A (execs b env) (FlRel X env ks) (ownOf X env ks) ρ1 ((fun loc H => execL (fun loc s H => exec T n ks loc s H) (b.map (erS X.f ks m)) loc H) loc1 H1) s1 := fun a => execs_snd hX hA hV hf hh b a
  have hC : ∀ {loc1 : Loc} {ρ1 : Rho} {H1 : Hp} {s1 : Shared}, At X fs env ks loc1 ρ1 H1 s1 → JE X cG fs A (isTrue t env (eval t env)) BRel noOwn ρ1 ((fun loc H => testE T n ks loc (erE X.f m t) H) loc1 H1) s1 := fun a => hT fs A env ks _ _ _ _ m t hA hV a
  show JE X cG fs A _ _ _ _ (whileL (fun loc H => testE T n ks loc (erE X.f m t) H) (fun loc H => execL (fun loc s H => exec T n ks loc s H) (b.map (erS X.f ks m)) loc H) LK loc H).only s
  generalize (fun loc H => testE T n ks loc (erE X.f m t) H) = ft at hC ⊢
  generalize (fun loc H => execL (fun loc s H => exec T n ks loc s H) (b.map (erS X.f ks m)) loc H) = fb at hB ⊢
  exact while_core hC hB a
theorem At.turn0 {it : Addr} {v : V} {u : Value} {i : Nat} (a : At X fs env ks loc ρ H s) (hit : ItRel s.heap it v u i) (hitB : X.B.objs.size ≤ it) (hitW : ¬ Wr ρ it) (own_ne : ¬ ownOf X env ks it) (S : Step fs (· = it) s s') :
    At X fs env ks loc ρ H s' ∧ ∀ d w, VRel X s.heap ρ d w → VRel X s'.heap ρ d w := by
  revert a hit hitB hitW own_ne S; revert X fs s s' ρ env ks loc H it v u i
  refine @(eps13 (P := ?P) (dX, dG, dS, dS, dR, dE, dK, dL, dH, dN, dv, dV, dN) rfl ((?m : Pi13 ?P) _ _ _ _ _ _ _ _ _ _ _ _ _))
  intro X fs s s' ρ env ks loc H it v u i a hit hitB hitW own_ne S
  refine E2A4 (hit) fun oi vs gi di c _ => ?_; try clear hit
  have hne : ∀ o, s.heap.get? it = some o → ¬ Solid o := by
    rintro o' g' (⟨_, _, rfl⟩ | ⟨_, _, rfl⟩ | ⟨q, _⟩)
    · rw [gi] at g'; cases g'; cases di
    · rw [gi] at g'; cases g'; cases di
    · rw [gi] at g'; cases g'; exact c q
  refine E0A2 (a.inv.owned S (by rintro b rfl; exact ⟨hitB, hitW, hne⟩)) fun I2 kk => ?_
  have kv : ∀ d w, VRel X s.heap ρ d w → VRel X s'.heap ρ d w := fun d w z => VRel.mono kk z
  refine ⟨⟨I2, ?_, ?_, a.fr.dom, a.fr.off⟩, kv⟩
  · refine E1A2 (a.fr.ns) fun mm hn' hval => ?_
    refine E3A4 (hn') fun o es ep g d kk' ff => ?_; try clear hn'
    refine E1A4 (S.data g fun q => own_ne (.inl q.symm)) fun o' g' d' _ _ => ?_
    exact ⟨mm, ⟨o', es, ep, g', d'.trans d, kk', ff⟩, fun n v a b => let ⟨val, c, d⟩ := hval n v a b; ⟨val, c, kv _ _ d⟩⟩
  · intro j hj
    refine E3A5 (a.fr.cel j hj) fun c o cv q1 q2 q3 q4 q5 => ?_
    obtain ⟨o', g', d', _, _⟩ := S.data q2 fun q => by
      rw [q, gi] at q2; cases q2
      rw [di] at q3; cases q3
    exact ⟨c, o', cv, q1, g', d'.trans q3, q4, fun v hv => let ⟨val, p, q⟩ := q5 v hv; ⟨val, p, kv _ _ q⟩⟩
inductive ForI (X : Wd) (fs : List Env) (env : Env) (ks : Ks) (ρ : Rho) (s : Shared) (v : V) (u : Value) (fb : D → Loc → Hp → R (Fl × Loc)) (r : R (Fl × Loc)) (j : Nat) (s1 : Shared) : Prop
  | intro (i : Nat) (ρ1 : Rho) (loc1 : Loc) (H1 : Hp) (w : Went X fs (ownOf X env ks) ρ s ρ1 s1) (a : At X fs env ks loc1 ρ1 H1 s1) (R1 : VRel X s1.heap ρ1 v u) (hit : ItRel s1.heap s.heap.objs.size v u i)
      (hitW : ¬ Wr ρ1 s.heap.objs.size) (e : forL v fb j i loc1 H1 = r)
theorem for_core {fb : D → Loc → Hp → R (Fl × Loc)} {x : Str} {xp : Pos} {k : Nat} {b : List Stmt} {v : V} {u : Value} {H0 : Hp} {s0 : Shared} {ρ0 : Rho} (N : NamesOK X) (hA : AOK n A fs) (hV : EnvOK X env ks) (a0 : At X fs env ks loc ρ0 H0 s0) (hx : X.f x = some k) (hs : isStore ks k = true)
    (R0 : VRel X s0.heap ρ0 v u) (hB : ∀ {d : D} {loc1 : Loc} {ρ1 : Rho} {H1 : Hp} {s1 : Shared}, At X fs env ks (setLoc loc1 k (.d d)) ρ1 H1 s1 → JE X cG fs A (execs b env) (FlRel X env ks) (ownOf X env ks) ρ1 (fb d loc1 H1) s1) :
    JE X cG fs A (holding [u] (pyIter u) >>= fun it => runOwn (.forLoop (.Name x xp) it b [] env) env) (FlRel X env ks) (ownOf X env ks) ρ0 (forL v fb LK 0 loc H0).only s0 := by
  revert N hA hV a0 hx hs R0 hB; revert X cG fs A env ks loc n fb x xp k b v u H0 s0 ρ0
  refine @(eps16 (P := ?P) (dX, dN, dG, dA, dE, dK, dL, dN, (fun _ _ _ => .bad : Mine.D → Mine.Loc → Mine.Hp → Mine.R (Mine.Fl × Mine.Loc)), ds, dp, dN, db, dv, dV, dH) rfl ((?m : Pi16 ?P) _ _ _ _ _ _ _ _ _ _ _ _ _ _ _ _))
  intro X cG fs A env ks loc n fb x xp k b v u H0 s0 ρ0 N hA hV a0 hx hs R0 hB
  refine JE.only fun res H' hr => JE.ok ?_
  generalize hQ : JOk X fs (ownOf X env ks) ρ0 s0 (FlRel X env ks) res H' = Q
  have fin : ∀ {f : Flow} {s' : Shared}, JOk X fs (ownOf X env ks) ρ0 s0 (FlRel X env ks) res H' f s' → Q f s' := by rw [← hQ]; exact id
  clear hQ
  have hn0 : nextItem H0 v 0 ≠ none := fun q => by
    have hr : (match nextItem H0 v 0 with | Option.none => Mine.R.bad | some Option.none => Mine.R.ok (Fl.next, loc) H0 | some (some x) => _) = Mine.R.ok res H' := hr
    rw [q] at hr
    cases hr
  refine wpAny_bind (wpAny_holding (iter_any a0.inv hn0 R0 fun s1 S1 hit _ => ?_))
  have a1 := a0.keeps S1
  have w1 : Went X fs (ownOf X env ks) ρ0 s0 ρ0 s1 := (Went.refl _ _ _ _ _).next (Ext.refl _ _) S1 fun _ _ q => q.elim
  have hitB : X.B.objs.size ≤ s0.heap.objs.size := a0.inv.sz
  have hitW : ¬ Wr ρ0 s0.heap.objs.size := a0.inv.fresh
  have R1 : VRel X s1.heap ρ0 v u := VRel.step a0.inv.stk S1.of0 (Ext.refl _ _) R0
  refine wpAny_runOwn (h := none) ?_
  refine codeAny_forLoop_any (ForI X fs env ks ρ0 s0 v u fb (.ok res H')) (fun j s1 hI => ?_) LK ⟨0, ρ0, loc, H0, w1, a1, R1, hit, hitW, hr⟩
  clear w1 a1 R1 hit hitW hr S1
  obtain ⟨i, ρ1, loc1, H1, w1, a1, R1, hit, hitW, e1⟩ := hI
  cases j with
  | zero => cases e1
  | succ j =>
    have e1 : (match nextItem H1 v i with | Option.none => Mine.R.bad | some Option.none => Mine.R.ok (Fl.next, loc1) H1 | some (some x) => _) = Mine.R.ok res H' := e1
    have own_ne : ¬ ownOf X env ks s0.heap.objs.size := fun q => by
      refine E2A3 (hit) fun o vs g d _ => ?_; try clear hit
      exact own_soft a1 q g vs d
    have turn : ∀ {s2 : Shared}, Step fs (· = s0.heap.objs.size) s1 s2 → At X fs env ks loc1 ρ1 H1 s2 ∧ (∀ d w, VRel X s1.heap ρ1 d w → VRel X s2.heap ρ1 d w) ∧ Went X fs (ownOf X env ks) ρ0 s0 ρ1 s2 := fun S2 =>
      have z := a1.turn0 hit hitB hitW own_ne S2
      ⟨z.1, z.2, w1.next (Ext.refl _ _) S2 fun b l q => absurd l (by rw [q]; exact Nat.lt_irrefl _)⟩
    cases hq : nextItem H1 v i with
    | none => rw [hq] at e1; cases e1
    | some r =>
      rw [hq] at e1
      refine next_any hA a1.inv hq R1 hit (fun er s2 S2 => ?_) fun d er u2 s2 S2 Rd hit2 => ?_
      · subst er
        cases e1
        refine E0A3 (turn S2) fun a2 kv w2 => ?_
        exact wpAny_pure (fin ⟨ρ1, w2.ext, a2.inv, ⟨a2.fr, rfl⟩, w2.fin⟩)
      · subst er
        refine E0A3 (turn S2) fun a2 kv w2 => ?_
        refine E2A2 (R.bind_ok e1) fun y H3 e4 e5 => ?_
        refine wpAny_pure (show wpAny _ _ (standAt xp >>= fun _ => bindName env x u2) _ _ s2 from wpAny_bind (wpAny_standAt ?_))
        refine store_any N hV a2 hx hs (kv (.d d) u2 Rd) fun s3 S3 F3 kv3 I3 => ?_
        have a3 : At X fs env ks (setLoc loc1 k (.d d)) ρ1 H1 s3 := ⟨I3, F3⟩
        have w3 := w2.next (Ext.refl _ _) S3 fun a l q => .inl q
        have hit3 : ItRel s3.heap s0.heap.objs.size v u (i + 1) := hit2.at fun o g nd ns => S3.get a2.inv.stk g own_ne fun es n q => nd ⟨es, n, q⟩
        refine wpAny_mono (JE.get (hB a3) e4) (fun f s4 z => ?_) fun _ _ z => z.elim
        obtain ⟨ρ4, x4, I4, R4, S4⟩ := z
        have w4 := w3.next x4 S4 fun a l q => q
        obtain ⟨fl, loc4⟩ := y
        refine E0A2 (R4) fun F4 z => ?_; try clear R4
        have a4 : At X fs env ks loc4 ρ4 H3 s4 := ⟨I4, F4⟩
        have R4 := a3.go S4 x4 (kv3 _ _ (kv _ _ R1))
        have hit4 : ItRel s4.heap s0.heap.objs.size v u (i + 1) := hit3.at fun o g nd ns => S4.get a3.inv.stk g (fun q => q.elim own_ne hitW) fun es n q => nd ⟨es, n, q⟩
        have hitW4 : ¬ Wr ρ4 s0.heap.objs.size := fun q => hitW ((x4.old (by obtain ⟨o, vs, g, _⟩ := hit3; exact Heap.lt_size g)).mp q)
        induction fl with
        | next => cases z; exact ⟨j, Nat.lt_succ_self j, i + 1, ρ4, loc4, H3, w4, a4, R4, hit4, hitW4, e5⟩
        | cont => cases z; exact ⟨j, Nat.lt_succ_self j, i + 1, ρ4, loc4, H3, w4, a4, R4, hit4, hitW4, e5⟩
        | brk => cases z; cases e5; exact fin ⟨ρ4, w4.ext, I4, ⟨F4, rfl⟩, w4.fin⟩
        | ret v =>
          refine E1A2 (z) fun u hz1 z => ?_; subst hz1; try clear z
          cases e5
          exact fin ⟨ρ4, w4.ext, I4, ⟨F4, u, rfl, z⟩, w4.fin⟩
theorem for_snd (N : NamesOK X) (hE : SndE X cG T n) (hX : SndX X cG T n) (hA : AOK n A fs) (hV : EnvOK X env ks) (hf : env.frame = some env.locals) (hh : fs.head? = some env) (a : At X fs env ks loc ρ H s) (x : Str) (xp : Pos) (k : Nat) (hx : X.f x = some k) (iter : Expr) (hi : isSetE iter = false) (b : List Stmt) (pos : Pos) :
    JE X cG fs A (PySem.exec (.For (.Name x xp) iter b [] pos) env) (FlRel X env ks) (ownOf X env ks) ρ (exec T (n + 1) ks loc (.for_ k (erE X.f m iter) (b.map (erS X.f ks m))) H) s := by
  revert N hE hX hA hV hf hh a hx hi; revert X cG T fs A s ρ env ks loc H n m x xp k iter b pos
  refine @(eps19 (P := ?P) (dX, dN, dT, dG, dA, dS, dR, dE, dK, dL, dH, dN, dN, ds, dp, dN, de, db, dp) rfl ((?m : Pi19 ?P) _ _ _ _ _ _ _ _ _ _ _ _ _ _ _ _ _ _ _))
  intro X cG T fs A s ρ env ks loc H n m x xp k iter b pos N hE hX hA hV hf hh a hx hi
  have e0 : PySem.exec (.For (.Name x xp) iter b [] pos) env = (standAt pos >>= fun _ => eval iter env >>= fun v => standAt iter.pos >>= fun _ => holding [v] (pyIter v) >>= fun it => runOwn (.forLoop (.Name x xp) it b [] env) env) := by
    cases iter <;> first | rfl | cases hi
  rw [e0]
  refine JE.stand (JE.val a (hE fs A env ks loc ρ H s m iter hA hV a) fun v H0 u s0 ρ0 z0 a0 R0 S0 => JE.stand (JE.guard fun hs => ?_))
  have hB : ∀ {d : D} {loc1 : Loc} {ρ1 : Rho} {H1 : Hp} {s1 : Shared}, At X fs env ks (setLoc loc1 k (.d d)) ρ1 H1 s1 → JE X cG fs A (execs b env) (FlRel X env ks) (ownOf X env ks) ρ1 ((fun (d : D) loc H => execL (fun loc s H => exec T n ks loc s H) (b.map (erS X.f ks m)) (setLoc loc k (.d d)) H) d loc1 H1) s1 := fun a => execs_snd hX hA hV hf hh b a
  generalize (fun (d : D) loc H => execL (fun loc s H => exec T n ks loc s H) (b.map (erS X.f ks m)) (setLoc loc k (.d d)) H) = fb at hB ⊢
  exact for_core N hA hV a0 hx hs R0 hB
end
end Mine
end
section
namespace Mine
open PySem PySem.Calls PyProof.Rows PySem.W
section
variable {X : Wd} {cG : Addr} {T : Tab} {K : Frag} {fs : List Env} {A : Around} {s s0 s1 s' : Shared} {ρ ρ' : Rho} {env : Env} {ks : Ks} {loc : Loc} {H H' : Hp} {n m : Nat} {own : Addr → Prop}
theorem Wr.take {k : Nat} {a : Addr} (h : Wr (ρ.take k) a) : Wr ρ a := by
  refine E1A2 (h) fun p hp q => ?_; try clear h
  exact ⟨p, List.mem_of_mem_take hp, q⟩
theorem DRel.take {h : Heap} {k : Nat} {d : D} {v : Value} (z : DRel X h ρ d v) : DRel X h (ρ.take k) d v := z.mono fun a o g n _ => ⟨g, fun q => n q.take⟩
theorem DRels.take {h : Heap} {k : Nat} {d : List D} {v : List Value} (z : DRels X h ρ d v) : DRels X h (ρ.take k) d v := z.mono fun a o g n _ => ⟨g, fun q => n q.take⟩
theorem FRels.take {h : Heap} {k : Nat} {d : List (Nat × D)} {v : List DictEntry} (z : FRels X h ρ d v) : FRels X h (ρ.take k) d v := z.mono fun a o g n _ => ⟨g, fun q => n q.take⟩
theorem Inv.trunc (I : Inv X fs ρ H s) (k : Nat) : Inv X fs (ρ.take k) (H.take k) s where
  rel := by
    have sub : ∀ {i : Nat} {p : Addr × Addr}, (ρ.take k)[i]? = some p → ρ[i]? = some p ∧ i < k := fun {i p} h => by
      rw [List.getElem?_take] at h
      split at h
      · rename_i q; exact ⟨h, q⟩
      · cases h
    refine ⟨by rw [List.length_take, List.length_take, I.rel.len], fun i p o hp ho => ?_, fun i j p q ne hp hq => I.rel.apart i j p q ne (sub hp).1 (sub hq).1, fun p hp => I.rel.above p (List.mem_of_mem_take hp)⟩
    refine E0A2 (sub hp) fun hp hi => ?_
    rw [List.getElem?_take, if_pos hi] at ho
    have z := I.rel.obj i p o hp ho
    induction o with
    | list l => obtain ⟨e, its, n, g, r⟩ := z; exact ⟨e, its, n, g, r.take⟩
    | inst l => obtain ⟨g, es, n, g', r⟩ := z; exact ⟨g, es, n, g', r.take⟩
  base := I.base
  stk := I.stk
  off e he L hL q := I.off e he L hL q.take
  sz := I.sz
theorem letGo_it {it : Addr} {v : V} {w u : Value} {i : Nat} {target : Expr} {E : Value → Shared → Prop} {Q : Unit → Shared → Prop} (h : ItRel s.heap it v w i) (hq : Q () s) : wpAny X.M A (letOwnedTupleGo target (.ref it) u) Q E s := by
  revert h hq; revert X A s it v w u i target E Q
  refine @(eps10 (P := ?P) (dX, dA, dS, dN, dv, dV, dV, dN, de, dq) rfl ((?m : Pi10 ?P) _ _ _ _ _ _ _ _ _ _))
  intro X A s it v w u i target E Q h hq
  refine E2A4 (h) fun o vs g d c m => ?_; try clear h
  have hc : ∃ n, o.cls = .type n ∧ (["enumerate", "zip", "dict_itemiterator", "dict_reverseitemiterator", "odict_iterator", "itertools.zip_longest", "itertools.pairwise"].contains n) = false := by
    induction v with
    | loc => exact m.elim fun _ m => ⟨_, m.2.1, by decide⟩
    | d x =>
      cases x with
      | tup => exact m.elim fun _ m => ⟨_, m.2.1, by decide⟩
      | list => exact m.elim fun _ m => ⟨_, m.2.1, by decide⟩
      | str => exact m.elim fun _ m => ⟨_, m.2.1, by decide⟩
      | rng => exact ⟨_, congrArg Obj.cls m, by decide⟩
      | _ => exact m.elim
  refine E1A2 (hc) fun n e hn => ?_; try clear hc
  unfold letOwnedTupleGo
  cases target <;> first
    | exact wpAny_pure hq
    | (cases u <;> first
        | exact wpAny_pure hq
        | (refine wpAny_bind (wpAny_load g ?_)
           rw [e, d]
           dsimp only
           rw [hn]
           exact wpAny_pure hq))
theorem compLoop_any {elt target iter : Expr} {ifs : List Expr} {scope : Scope} {pos : Pos} {it acc : Value} {env : Env} {R : Result → Shared → Prop} (I : Nat → Shared → Prop)
    (turn : ∀ n s, I n s → wpAny X.M A (pyNext it) (fun r s₁ => match r with
      | none => R (.ok .next) s₁
      | some v => wpAny X.M A (letOwnedTupleGo target it v) (fun _ s₁' => wpAny X.M A (assign target env v) (fun _ s₂ =>
          wpAny X.M A (forIn ifs true fun c r => if r = true then do let ok ← PySem.isTrue c env (eval c env); pure (ForInStep.yield ok) else pure (ForInStep.yield r)) (fun ok s₃ =>
            if ok = true then wpAny X.M A (eval elt env) (fun x s₄ =>
              wpAny X.M A (call (.builtin "list.append") [acc, x]) (fun _ s₅ => ∃ m, m < n ∧ I m s₅) (fun _ _ => False) s₄) (fun _ _ => False) s₃
            else ∃ m, m < n ∧ I m s₃) (fun _ _ => False) s₂) (fun _ _ => False) s₁') (fun _ _ => False) s₁) (fun _ _ => False) s)
    (n : Nat) (h : I n s) : codeAny X.M A (.compLoop (.ListComp elt [⟨target, iter, ifs, 0⟩] scope pos) 0 it acc env) R s := by
  revert turn h; revert X A s elt target iter ifs scope pos it acc env R I n
  refine @(eps13 (P := ?P) (dX, dA, dS, de, de, de, dl, (default : PySem.Scope), dp, dV, dV, dE, (default : PySem.Result → PySem.Shared → Prop)) rfl ((?m : Pi13 ?P) _ _ _ _ _ _ _ _ _ _ _ _ _))
  intro X A s elt target iter ifs scope pos it acc env R I n turn h
  refine codeAny_loop rfl I (fun n s hI => ?_) n h
  show wpAny _ A ((compTurn (.ListComp elt [⟨target, iter, ifs, 0⟩] scope pos) 0 it acc env).onRaise (fun x => do noteFrame x env; theTreesLotGoes x)) _ _ s
  refine wpAny_noted ?_
  rw [compTurn_list]
  refine wpAny_bind (wpAny_standAt (wpAny_bind (wpAny_mono (turn n s hI) (fun r s₁ h₁ => ?_) fun _ _ h' => h'.elim)))
  induction r with
  | none => exact wpAny_pure h₁
  | some v =>
    refine wpAny_bind (wpAny_mono h₁ (fun _ s₁' h₁ => ?_) fun _ _ h' => h'.elim)
    refine wpAny_bind (wpAny_mono h₁ (fun _ s₂ h₂ => wpAny_bind (wpAny_mono h₂ (fun ok s₃ h₃ => ?_) fun _ _ h' => h'.elim)) fun _ _ h' => h'.elim)
    induction ok with
    | false => exact wpAny_pure ⟨rfl, h₃⟩
    | true =>
      exact wpAny_bind (wpAny_bind (wpAny_mono h₃ (fun x s₄ h₄ => wpAny_bind (wpAny_mono h₄ (fun _ s₅ h₅ => wpAny_pure (wpAny_pure ⟨rfl, h₅⟩)) fun _ _ h' => h'.elim)) fun _ _ h' => h'.elim))
theorem tests_skip {env : Env} {E : Value → Shared → Prop} {Q : Bool → Shared → Prop} : ∀ (cs : List Expr), Q false s → wpAny X.M A (forIn cs false fun c r => if r = true then do let ok ← PySem.isTrue c env (eval c env); pure (ForInStep.yield ok) else pure (ForInStep.yield r)) Q E s
  | [], h => wpAny_pure h
  | c :: cs, h => by
    rw [List.forIn_cons, if_neg (by decide)]
    exact wpAny_bind (wpAny_pure (tests_skip cs h))
theorem tests_snd (hT : SndT X cG T n) (hA : AOK n A fs) (hV : EnvOK X env ks) : ∀ (cs : List Expr) {ρ : Rho} {H : Hp} {s : Shared}, At X fs env ks loc ρ H s →
    JE X cG fs A (forIn cs true fun c r => if r = true then do let ok ← PySem.isTrue c env (eval c env); Pure.pure (ForInStep.yield ok) else Pure.pure (ForInStep.yield r)) BRel noOwn ρ (allT (testE T n ks loc) true (cs.map (erE X.f m)) H) s
  | [], ρ, H, s, a => JE.pure a.inv rfl
  | c :: cs, ρ, H, s, a => by
    rw [List.forIn_cons, if_pos rfl]
    refine JE.assoc ?_
    refine JE.bind (hT fs A env ks loc ρ H s m c hA hV a) fun b H' t s' ρ' x I R S => ?_
    have a' := a.next x I S
    cases R
    rw [pure_bind]
    cases b
    · exact JE.fin (a := false) a'.inv rfl fun Q E z => tests_skip cs z
    · exact tests_snd hT hA hV cs a'
noncomputable def closL (env : Env) : List (Str × NameKind) → List (Str × Addr) → List (Str × Addr)
  | [], acc => acc
  | (n, k) :: r, acc => closL env r (if k == .free then (match env.cells.lookup n with | some a => (n, a) :: acc | Option.none => acc) else acc)
theorem closure_is (env : Env) (f : Str × NameKind → List (Str × Addr) → Sem (ForInStep (List (Str × Addr)))) (hf : ∀ n k acc, f (n, k) acc = if k == .free then (do let a ← cellOf env n; pure (.yield ((n, a) :: acc))) else pure (.yield acc)) : ∀ (names : List (Str × NameKind)) (acc : List (Str × Addr)),
    (∀ n, (n, NameKind.free) ∈ names → (env.cells.lookup n).isSome = true) → forIn names acc f = pure (closL env names acc)
  | [], acc, _ => by rw [List.forIn_nil]; rfl
  | (n, k) :: r, acc, h => by
    rw [List.forIn_cons, hf]
    have ih := fun acc => closure_is env f hf r acc fun n hn => h n (List.mem_cons_of_mem _ hn)
    unfold closL
    by_cases q : k == .free
    · rw [if_pos q, if_pos q]
      obtain rfl := beq_iff_eq.mp q
      refine E1A1 (Option.isSome_iff_exists.mp (h n List.mem_cons_self)) fun a e => ?_
      unfold cellOf
      rw [e]
      simp only [pure_bind]
      exact ih _
    · rw [if_neg q, if_neg q, pure_bind]
      exact ih _
theorem closL_lookup (env : Env) : ∀ (names : List (Str × NameKind)) (acc : List (Str × Addr)) (x : Str), (∀ x c, acc.lookup x = some c → env.cells.lookup x = some c) → (∀ n, (n, NameKind.free) ∈ names → (env.cells.lookup n).isSome = true) →
    (∀ c, (closL env names acc).lookup x = some c → env.cells.lookup x = some c) ∧ ((x, NameKind.free) ∈ names ∨ (acc.lookup x).isSome = true → (closL env names acc).lookup x = env.cells.lookup x) ∧
    (∀ c, (closL env names acc).lookup x = some c → (x, NameKind.free) ∈ names ∨ acc.lookup x = some c)
  | [], acc, x, h, _ => ⟨fun c => h x c, fun q => by
      rcases q with q | q
      · cases q
      · refine E1A1 (Option.isSome_iff_exists.mp q) fun c e => ?_
        show acc.lookup x = _
        rw [e, h x c e], fun c e => .inr e⟩
  | (n, k) :: r, acc, x, h, hs => by
    unfold closL
    by_cases q : k == .free
    · rw [if_pos q]
      obtain rfl := beq_iff_eq.mp q
      refine E1A1 (Option.isSome_iff_exists.mp (hs n List.mem_cons_self)) fun a e => ?_
      rw [e]
      dsimp only
      have h' : ∀ x c, ((n, a) :: acc).lookup x = some c → env.cells.lookup x = some c := fun x c z => by
        rw [List.lookup_cons] at z
        cases q : x == n with
        | true => rw [q] at z; cases z; rw [beq_iff_eq.mp q]; exact e
        | false => rw [q] at z; exact h x c z
      refine E0A3 (closL_lookup env r ((n, a) :: acc) x h' fun n hn => hs n (List.mem_cons_of_mem _ hn)) fun i1 i2 i3 => ?_
      refine ⟨i1, fun z => i2 ?_, fun c z => ?_⟩
      · rcases z with z | z
        · rcases List.mem_cons.mp z with z | z
          · cases z; right; rw [List.lookup_cons, beq_self_eq_true]; rfl
          · exact .inl z
        · right
          rw [List.lookup_cons]
          cases x == n <;> first | rfl | exact z
      · rcases i3 c z with z | z
        · exact .inl (List.mem_cons_of_mem _ z)
        · rw [List.lookup_cons] at z
          cases q : x == n with
          | true => rw [beq_iff_eq.mp q]; exact .inl List.mem_cons_self
          | false => rw [q] at z; exact .inr z
    · rw [if_neg q]
      refine E0A3 (closL_lookup env r acc x h fun n hn => hs n (List.mem_cons_of_mem _ hn)) fun i1 i2 i3 => ?_
      refine ⟨i1, fun z => i2 ?_, fun c z => ?_⟩
      · rcases z with z | z
        · rcases List.mem_cons.mp z with z | z
          · cases z; exact absurd rfl q
          · exact .inl z
        · exact .inr z
      · rcases i3 c z with z | z
        · exact .inl (List.mem_cons_of_mem _ z)
        · exact .inr z
end
theorem rKs_lookup {X : Wd} (N : NamesOK X) {x : Str} {n : Nat} (hx : X.f x = some n) (names : List (Str × NameKind)) : ∀ (ks : Ks), rKs X.f names = some ks → names.lookup x = ks.lookup n := by
  induction names with
  | nil => intro ks h; cases h; rfl
  | cons y r ih =>
    intro ks h
    refine E2A3 (rKs_is h) fun j l hz h1 h2 => ?_
    subst hz
    obtain ⟨y, k⟩ := y
    rw [List.lookup_cons, List.lookup_cons, ih l h2]
    have : (x == y) = (n == j) := by
      by_cases q : n = j
      · subst q
        rw [N.inj x n hx, N.inj y n h1, beq_self_eq_true, beq_self_eq_true]
      · rw [beq_eq_false_iff_ne.mpr q]
        exact beq_eq_false_iff_ne.mpr fun e => q (by subst e; rw [hx] at h1; exact Option.some.inj h1)
    rw [this]
theorem rKs_mem {X : Wd} {x : Str} {k : NameKind} (names : List (Str × NameKind)) : ∀ (ks : Ks), rKs X.f names = some ks → (x, k) ∈ names → ∃ n, X.f x = some n ∧ (n, k) ∈ ks := by
  induction names with
  | nil => exact fun _ _ q => nomatch q
  | cons y r ih =>
    intro ks h q
    refine E2A3 (rKs_is h) fun j l hz h1 h2 => ?_
    subst hz
    rcases List.mem_cons.mp q with q | q
    · subst q; exact ⟨j, h1, List.mem_cons_self⟩
    · exact (ih l h2 q).elim fun n a => ⟨n, a.1, List.mem_cons_of_mem _ a.2⟩
theorem rKs_mem' {X : Wd} {n : Nat} {k : NameKind} (names : List (Str × NameKind)) : ∀ (ks : Ks), rKs X.f names = some ks → (n, k) ∈ ks → ∃ x, X.f x = some n ∧ (x, k) ∈ names := by
  induction names with
  | nil => intro ks h q; cases h; cases q
  | cons y r ih =>
    intro ks h q
    refine E2A3 (rKs_is h) fun j l hz h1 h2 => ?_
    subst hz
    rcases List.mem_cons.mp q with q | q
    · cases q; exact ⟨y.1, h1, List.mem_cons_self⟩
    · exact (ih l h2 q).elim fun x a => ⟨x, a.1, List.mem_cons_of_mem _ a.2⟩
theorem relabel_lookup (env : Env) (x : Str) : ∀ (names : List (Str × NameKind)), (names.map fun (n, k) => if (k == NameKind.free && env.scope.kind == .function && env.kindOf n == some .cell) then (n, NameKind.cell) else (n, k)).lookup x =
    (names.lookup x).map fun k => if (k == NameKind.free && env.scope.kind == .function && env.kindOf x == some .cell) then .cell else k
  | [] => rfl
  | (n, k) :: r => by
    have ih := relabel_lookup env x r
    show List.lookup x ((if (k == NameKind.free && env.scope.kind == .function && env.kindOf n == some .cell) = true then (n, NameKind.cell) else (n, k)) :: _) = _
    by_cases c : (k == NameKind.free && env.scope.kind == .function && env.kindOf n == some .cell) = true
    · rw [if_pos c, List.lookup_cons, List.lookup_cons]
      cases hx : x == n with
      | false => exact ih
      | true =>
        obtain rfl := beq_iff_eq.mp hx
        show some NameKind.cell = some (if _ then _ else _)
        rw [if_pos c]
    · rw [if_neg c, List.lookup_cons, List.lookup_cons]
      cases hx : x == n with
      | false => exact ih
      | true =>
        obtain rfl := beq_iff_eq.mp hx
        show some k = some (if _ then _ else _)
        rw [if_neg c]
end Mine
end
section
namespace Mine
open PySem PySem.Calls PyProof.Rows PySem.W
section
variable {X : Wd} {cG : Addr} {T : Tab} {K : Frag} {fs : List Env} {A : Around} {s s0 s1 s' : Shared} {ρ ρ' : Rho} {env : Env} {ks : Ks} {loc : Loc} {H H' : Hp} {n m : Nat} {own : Addr → Prop}
theorem freeOf_lookup (cks : Ks) (k : Nat) (loc : Loc) : (freeOf cks loc).lookup k = if cks.lookup k = some .free then loc.lookup k else none := by
  induction loc with
  | nil => exact (ite_self _).symm
  | cons x r ih =>
    obtain ⟨j, v⟩ := x
    have e : freeOf cks ((j, v) :: r) = if cks.lookup j = some .free then (j, v) :: freeOf cks r else freeOf cks r := by
      show (match (match cks.lookup j with | some .free => true | _ => false : Bool) with | true => (j, v) :: freeOf cks r | false => freeOf cks r) = _
      cases cks.lookup j with
      | none => rfl
      | some y => cases y <;> rfl
    rw [e, lookup_cons']
    by_cases ek : k = j
    · subst ek
      rw [if_pos rfl]
      by_cases c : cks.lookup k = some .free
      · rw [if_pos c, if_pos c, lookup_cons', if_pos rfl]
      · rw [if_neg c, if_neg c, ih, if_neg c]
    · rw [if_neg ek, ← ih]
      by_cases c : cks.lookup j = some .free
      · rw [if_pos c, lookup_cons', if_neg ek]
      · rw [if_neg c]
theorem setLocs_other {cks : Ks} {k : Nat} (hk : isStore cks k = false) (ns : List Nat) : ∀ (vs : List V) (loc loc' : Loc), setLocs cks ns vs loc = some loc' → loc'.lookup k = loc.lookup k := by
  induction ns with
  | nil => intro vs loc loc' h; cases vs with | nil => cases h; rfl | cons => cases h
  | cons n ns ih =>
    intro vs loc loc' h
    cases vs with
    | nil => cases h
    | cons v vs =>
      refine E0A2 (setLocs_is h) fun hs h => ?_
      rw [ih vs _ loc' h, setLoc_lookup, if_neg (by rintro rfl; rw [hk] at hs; cases hs)]
theorem FrRel.less {h : Heap} {loc' : Loc} (F : FrRel X env ks loc' ρ h) (hl : ∀ n v, loc.lookup n = some v → loc'.lookup n = some v) : FrRel X env ks loc ρ h where
  ns := let ⟨m, a, b⟩ := F.ns; ⟨m, a, fun n v c d => b n v c (hl n v d)⟩
  cel n hn := let ⟨c, o, cv, a, b, d, e, f⟩ := F.cel n hn; ⟨c, o, cv, a, b, d, e, fun v hv => f v (hl n v hv)⟩
  dom n v hv := F.dom n v (hl n v hv)
  off := F.off
theorem Inv.but (I : Inv X fs ρ H s) {C : Addr} {h' : Heap} (hs : Heap.SameBut C s.heap h') (hB : X.B.objs.size ≤ C) (hW : ¬ Wr ρ C) (hn : ∀ o, s.heap.get? C = some o → ¬ Solid o) (hf : ∀ e ∈ fs, e.frame ≠ some C) :
    Inv X fs ρ H { s with heap := h' } ∧ (∀ a o, s.heap.get? a = some o → ¬ Wr ρ a → Solid o → h'.get? a = some o ∧ ¬ Wr ρ a) := by
  revert I hs hB hW hn hf; revert X fs s ρ H C h'
  refine @(eps7 (P := ?P) (dX, dG, dS, dR, dH, dN, dh) rfl ((?m : Pi7 ?P) _ _ _ _ _ _ _))
  intro X fs s ρ H C h' I hs hB hW hn hf
  have k : ∀ a o, s.heap.get? a = some o → ¬ Wr ρ a → Solid o → h'.get? a = some o ∧ ¬ Wr ρ a := fun a o e n so =>
    ⟨(hs.2 a fun q => by subst q; exact hn o e so).trans e, n⟩
  have k2 : ∀ a, Wr ρ a → h'.get? a = s.heap.get? a := fun a w => hs.2 a fun q => hW (q ▸ w)
  refine ⟨⟨⟨I.rel.len, fun i p o hp ho => ?_, I.rel.apart, I.rel.above⟩, fun b o e => ?_, fun e he => ?_, I.off, by rw [show ({ s with heap := h' } : Shared).heap.objs.size = s.heap.objs.size from hs.1]; exact I.sz⟩, k⟩
  · have z := I.rel.obj i p o hp ho
    induction o with
    | list l => obtain ⟨e, its, n, g, r⟩ := z; exact ⟨e, its, n, (k2 _ (Wr.of1 hp)).trans g, DRels.mono k r⟩
    | inst l => obtain ⟨g, es, n, g', r⟩ := z; exact ⟨(k2 _ (Wr.of1 hp)).trans g, es, n, (k2 _ (Wr.of2 hp)).trans g', FRels.mono k r⟩
  · exact (hs.2 b fun q => by subst q; exact absurd (Heap.lt_size e) (Nat.not_lt.mpr hB)).trans (I.base b o e)
  · obtain ⟨q, L, o, es, n, f, a, g, d⟩ := I.stk e he
    exact ⟨q, L, o, es, n, f, a, (hs.2 L fun q => by subst q; exact hf e he f).trans g, d⟩
theorem iterit_any {it : Addr} {v : V} {w : Value} {i : Nat} {E : Value → Shared → Prop} {Q : Value → Shared → Prop} (h : ItRel s.heap it v w i) (hq : Q (.ref it) s) : wpAny X.M A (pyIter (.ref it)) Q E s := by
  refine E2A4 (h) fun o vs g d c m => ?_; try clear h
  induction v with
  | loc => exact m.elim fun t m => wpAny_pyIter_listiter ⟨o, g, m.2.1, by rw [d, m.2.2]⟩ hq
  | d x =>
    cases x with
    | tup => exact m.elim fun t m => wpAny_pyIter_tupleiter ⟨o, g, m.2.1, by rw [d, m.2.2]⟩ hq
    | list => exact m.elim fun t m => wpAny_pyIter_listiter ⟨o, g, m.2.1, by rw [d, m.2.2]⟩ hq
    | str => exact m.elim fun t m => wpAny_pyIter_striter_ascii ⟨o, g, m.2.1, by rw [d, m.2.2]⟩ hq
    | rng => exact wpAny_pyIter_rangeiter (show s.heap.get? it = some _ from m ▸ g) hq
    | _ => exact m.elim
theorem nextItem_app {h : Heap} {v : V} {w : Value} (hl : ρ.length = H.length) (hv : VRel X h ρ v w) (e : Hp) (i : Nat) : nextItem (H ++ e) v i = nextItem H v i := by
  induction v with
  | d x => cases x <;> rfl
  | loc j =>
    refine E1A2 (hv) fun p hp _ => ?_; try clear hv
    have : j < H.length := by rw [← hl]; exact (List.getElem?_eq_some_iff.mp hp).1
    unfold nextItem
    dsimp only
    rw [List.getElem?_append_left this]
theorem target_any (N : NamesOK X) (hA : AOK n A fs) (hV : EnvOK X env ks) {tg : Expr} {t : Tg} (ht : rTg X.f tg = some t) {d : D} {vs : List V} {loc' : Loc} (hv : tgVals t d = some vs) (hl : setLocs ks (tgNames t) vs loc = some loc') (a : At X fs env ks loc ρ H s) {u : Value} (hu : DRel X s.heap ρ d u)
    {E : Value → Shared → Prop} {Q : Unit → Shared → Prop} (h : ∀ s', At X fs env ks loc' ρ H s' → Step fs (ownOf X env ks) s s' → Q () s') : wpAny X.M A (assign tg env u) Q E s := by
  revert N hA hV ht hv hl a hu h; revert X fs A s ρ env ks loc H n tg t d vs loc' u E Q
  refine @(eps16 (P := ?P) (dX, dG, dA, dS, dR, dE, dK, dL, dH, dN, de, (Tg.one 0), dd, (default : List Mine.V), dL, dV) rfl ((?m : Pi16 ?P) _ _ _ _ _ _ _ _ _ _ _ _ _ _ _ _))
  intro X fs A s ρ env ks loc H n tg t d vs loc' u E Q N hA hV ht hv hl a hu h
  have ht : (nameP tg).elim ((tupP tg).bind fun v => (rNames X.f v.1).map .two) (fun v => (X.f v.1).map .one) = some t := ht
  revert ht
  cases nameP tg with
  | some v =>
    intro ht
    refine E1A2 (Option.map_eq_some_iff.mp ht) fun k hk hz2 => ?_; subst hz2
    refine v.2.elim fun p e => ?_
    rw [e]
    cases hv
    refine E0A2 (setLocs_is hl) fun hs hl => ?_
    cases hl
    show wpAny _ _ (standAt p >>= fun _ => bindName env v.1 u) _ _ s
    exact wpAny_bind (wpAny_standAt (store_any N hV a hk hs (v := .d d) hu fun s' S F kk I => h s' ⟨I, F⟩ S))
  | none =>
    intro ht
    refine E1A2 (Option.bind_eq_some_iff.mp ht) fun w _ ht => ?_
    refine E1A2 (Option.map_eq_some_iff.mp ht) fun ns hn hz2 => ?_; subst hz2
    obtain ⟨es, k, p, e⟩ := w
    rw [e]
    refine E0A3 (tgs_ok X env es ns hn) fun t1 t2 t3 => ?_
    cases d with
    | tup l =>
      refine E0A2 (iteN (show (if l.length = ns.length then some (l.map V.d) else Option.none) = some vs from hv)) fun hlen hvs => ?_
      subst hvs
      refine E3A4 (hu) fun b its c hz3 g _ r => ?_; subst hz3; try clear hu
      show wpAny _ _ (standAt p >>= fun _ => unpack (.ref b) (assignEach es env)) _ _ s
      refine wpAny_bind (wpAny_standAt ?_)
      unfold unpack
      rw [t2, t3]
      have e := r.length
      rw [Array.length_toList] at e
      refine wpAny_bind (wpAny_holding (items_any hA a.inv g (by lia) fun s1 S1 => ?_))
      have a1 := a.keeps S1
      exact stores_any N hV t1 a1 (VRels.ofD (DRels.step a.inv.stk S1.of0 (Ext.refl _ _) r)) hl fun s2 a2 S2 => h s2 a2 ((S1.mono fun _ z => z.elim).trans S2 fun _ _ z => z)
    | _ => cases hv
end
end Mine
end
section
namespace Mine
open PySem PySem.Calls PyProof.Rows PySem.W
section
variable {X : Wd} {cG : Addr} {T : Tab} {K : Frag} {fs : List Env} {A : Around} {s s0 s1 s' : Shared} {ρ ρ' : Rho} {env : Env} {ks : Ks} {loc : Loc} {H H' : Hp} {n m : Nat} {own : Addr → Prop}
theorem compOk_mem {ks cks : Ks} (h : compOk ks cks = true) {n : Nat} {k : NameKind} (hm : (n, k) ∈ cks) : k ≠ .cell ∧ (k = .local → cks.lookup n = some .local) ∧ (k = .free → ks.lookup n = some .cell ∨ ks.lookup n = some .free) := by
  have := List.all_eq_true.mp h _ hm
  dsimp only at this
  cases k <;> simp_all
theorem lookup_mem {α : Type} {n : Nat} {k : α} {l : List (Nat × α)} : l.lookup n = some k → (n, k) ∈ l := by
  induction l with
  | nil => intro h; cases h
  | cons p r ih =>
    intro h
    obtain ⟨j, v⟩ := p
    rw [lookup_cons'] at h
    by_cases e : n = j
    · rw [if_pos e] at h
      cases h
      exact e ▸ List.mem_cons_self
    · rw [if_neg e] at h
      exact List.mem_cons_of_mem _ (ih h)
theorem cenv_ok (N : NamesOK X) (hV : EnvOK X env ks) (a : At X fs env ks loc ρ H s) {sc : Scope} {cks : Ks} (hsc : rScope X.f sc = some cks) (hok : compOk ks cks = true) {C : Addr} (hC : s.heap.objs.size ≤ C) :
    sc.kind = .function ∧ (∀ x ∈ sc.names, x.2 ≠ .cell) ∧ (∀ x ∈ sc.names, x.2 = .local → sc.names.lookup x.1 = some .local) ∧
      closureFor sc env = pure (closL env sc.names []) ∧ EnvOK X (compEnvC sc (closL env sc.names []) C env) cks ∧
      (∀ n, cks.lookup n = some .free → (closL env sc.names []).lookup (X.nm n) = env.cells.lookup (X.nm n) ∧ (ks.lookup n = some .cell ∨ ks.lookup n = some .free)) := by
  revert N hV a hsc hok hC; revert X fs s ρ env ks loc H sc cks C
  refine @(eps10 (P := ?P) (dX, dG, dS, dR, dE, dK, dL, dH, (default : PySem.Scope), dK) rfl ((?m : Pi10 ?P) _ _ _ _ _ _ _ _ _ _))
  intro X fs s ρ env ks loc H sc cks C N hV a hsc hok hC
  obtain ⟨kd, names, g, co, more⟩ := sc
  refine E2A2 (rScope_is hsc) fun names' more' heq hsc => ?_
  · cases heq
    have mem : ∀ {x : Str} {k : NameKind}, (x, k) ∈ names → ∃ j, X.f x = some j ∧ x = X.nm j ∧ (j, k) ∈ cks := fun {x k} h => by
      refine E1A2 (rKs_mem names cks hsc h) fun j a b => ?_
      exact ⟨j, a, N.inj x j a, b⟩
    have hfree : ∀ x, (x, NameKind.free) ∈ names → (env.cells.lookup x).isSome = true := fun x h => by
      refine E1A3 (mem h) fun j q1 q2 q3 => ?_
      refine E3A2 (a.fr.cel j ((compOk_mem hok q3).2.2 rfl)) fun c o cv e1 _ => ?_
      rw [q2, e1]; rfl
    have cl := fun x => closL_lookup env names [] x (fun x c h => by cases h) hfree
    have alive : ∀ x c, (closL env names []).lookup x = some c → env.cells.lookup x = some c ∧ c < s.heap.objs.size := fun x c h => by
      have e := (cl x).1 c h
      refine ⟨e, ?_⟩
      rcases (cl x).2.2 c h with q | q
      · refine E1A3 (mem q) fun j q1 q2 q3 => ?_
        refine E3A3 (a.fr.cel j ((compOk_mem hok q3).2.2 rfl)) fun c' o cv e1 e2 _ => ?_
        rw [q2, e1] at e; cases e
        exact Heap.lt_size e2
      · cases q
    refine ⟨rfl, fun x h => ?_, fun x h hl => ?_, ?_, ⟨rfl, fun x n hx => ?_, hV.glob, hV.blt, fun x y c h h' => hV.cinj x y c (alive x c h).1 (alive y c h').1, Nat.le_trans a.inv.sz hC, fun x c h => ⟨(hV.cabv x c (alive x c h).1).1, ?_⟩⟩, fun n hn => ?_⟩
    · refine E1A3 (mem (x := x.1) (k := x.2) h) fun j _ _ q => ?_
      exact (compOk_mem hok q).1
    · refine E1A3 (mem (x := x.1) (k := x.2) h) fun j q1 _ q => ?_
      rw [hl] at q
      rw [show ({ kind := .function, names := names, isGenerator := _, isCoroutine := _, more := _ } : Scope).names.lookup x.1 = names.lookup x.1 from rfl, rKs_lookup N q1 names cks hsc]
      exact (compOk_mem hok q).2.1 rfl
    · simp only [closureFor]
      rw [closure_is env _ (fun n k acc => by cases hkc : k == NameKind.free <;> simp [hkc]) names [] hfree]
      rfl
    · show (relabel _ env).names.lookup x = _
      unfold relabel
      rw [relabel_lookup env x, rKs_lookup N hx names cks hsc]
      cases q : cks.lookup n with
      | none => rfl
      | some k =>
        show some _ = some _
        congr 1
        dsimp only
        by_cases hk : k = .free
        · subst hk
          have := (compOk_mem hok (lookup_mem q)).2.2 rfl
          rw [if_pos rfl, if_pos]
          rw [hV.kind, hV.kinds x n hx]
          rcases this with e | e <;> rw [e] <;> rfl
        · rw [if_neg hk, if_neg]
          intro e
          simp only [Bool.and_eq_true, beq_iff_eq] at e
          exact hk e.1.1
    · exact fun e => absurd (alive x c h).2 (by rw [e]; exact Nat.not_lt.mpr hC)
    · have hm := lookup_mem hn
      refine E1A2 (rKs_mem' names cks hsc hm) fun x hx hxm => ?_
      have ex := N.inj x n hx
      subst ex
      exact ⟨(cl _).2.1 (.inl hxm), (compOk_mem hok hm).2.2 rfl⟩
structure CoS (X : Wd) (fs : List Env) (E1 : Env) (cks : Ks) (ρ1 : Rho) (s1 : Shared) (src : V) (xv : Value) (D C : Addr) (h1 i : Nat) (loc : Loc) (ρ : Rho) (H : Hp) (s : Shared) : Prop where
  w : Went X fs noOwn ρ1 s1 ρ s
  a : At X fs E1 cks loc ρ H s
  R : VRel X s.heap ρ src xv
  hit : ItRel s.heap s1.heap.objs.size src xv i
  hitW : ¬ Wr ρ s1.heap.objs.size
  hD : ρ[h1]? = some (D, D)
  hC : C < s.heap.objs.size
section
variable {E1 : Env} {cks : Ks} {ρ1 : Rho} {src : V} {xv : Value} {D C : Addr} {h1 i : Nat} {loc loc' : Loc}
theorem CoS.next (c : CoS X fs E1 cks ρ1 s1 src xv D C h1 i loc ρ H s) (x : Ext ρ s.heap.objs.size ρ') (I : Inv X fs ρ' H' s') (S : Step fs (fun a => noOwn a ∨ Wr ρ a) s s') : CoS X fs E1 cks ρ1 s1 src xv D C h1 i loc ρ' H' s' :=
  ⟨c.w.next x S fun b l q => q.elim (fun z => z.elim) .inr, c.a.next x I S, c.a.val x S c.R, c.hit.at fun o g nd ns => S.get c.a.inv.stk g (fun q => q.elim (fun z => z.elim) c.hitW) fun es n q => nd ⟨es, n, q⟩,
    fun z => c.hitW ((x.old (by obtain ⟨o, vs, g, _⟩ := c.hit; exact Heap.lt_size g)).mp z), x.get c.hD, Nat.lt_of_lt_of_le c.hC S.size⟩
theorem CoS.turn {i' : Nat} (c : CoS X fs E1 cks ρ1 s1 src xv D C h1 i loc ρ H s) (hB : X.B.objs.size ≤ s1.heap.objs.size) (ne : ¬ ownOf X E1 cks s1.heap.objs.size) (S : Step fs (· = s1.heap.objs.size) s s') (hit' : ItRel s'.heap s1.heap.objs.size src xv i') :
    CoS X fs E1 cks ρ1 s1 src xv D C h1 i' loc ρ H s' :=
  have z := c.a.turn0 c.hit hB c.hitW ne S
  ⟨c.w.next (Ext.refl _ _) S fun b l q => absurd l (by rw [q]; exact Nat.lt_irrefl _), z.1, z.2 _ _ c.R, hit', c.hitW, c.hD, Nat.lt_of_lt_of_le c.hC S.size⟩
theorem CoS.owned (c : CoS X fs E1 cks ρ1 s1 src xv D C h1 i loc ρ H s) (ho : ∀ b, ownOf X E1 cks b → s1.heap.objs.size ≤ b ∧ b ≠ s1.heap.objs.size) (a' : At X fs E1 cks loc' ρ H s') (S : Step fs (ownOf X E1 cks) s s') :
    CoS X fs E1 cks ρ1 s1 src xv D C h1 i loc' ρ H s' :=
  ⟨c.w.next (Ext.refl _ _) S fun b l q => absurd l (Nat.not_lt.mpr (ho b q).1), a', c.a.go (S.mono fun _ z => .inl z) (Ext.refl _ _) c.R, c.hit.at fun o g nd ns => S.get c.a.inv.stk g (fun q => (ho _ q).2 rfl) fun es n q => nd ⟨es, n, q⟩,
    c.hitW, c.hD, Nat.lt_of_lt_of_le c.hC S.size⟩
theorem CoS.at (c : CoS X fs E1 cks ρ1 s1 src xv D C h1 i loc ρ H s) (a' : At X fs E1 cks loc' ρ H s) : CoS X fs E1 cks ρ1 s1 src xv D C h1 i loc' ρ H s := ⟨c.w, a', c.R, c.hit, c.hitW, c.hD, c.hC⟩
inductive CoI (X : Wd) (fs : List Env) (E1 : Env) (cks : Ks) (ρ1 : Rho) (s1 : Shared) (src : V) (xv : Value) (D C : Addr) (h1 : Nat) (loc : Loc) (f : Mine.D → Hp → Mine.R (Option Mine.D)) (r : Mine.R Unit) (k : Nat) (s : Shared) : Prop
  | intro (i : Nat) (ρ : Rho) (H : Hp) (c : CoS X fs E1 cks ρ1 s1 src xv D C h1 i loc ρ H s) (e : compL src f h1 k i H = r)
noncomputable def ItemF (T : Tab) (n : Nat) (cks : Ks) (t : Tg) (loc : Loc) (conds : List Ex) (elt : Ex) (x : Mine.D) (H : Hp) : Mine.R (Option Mine.D) := match tgVals t x with
  | Option.none => Mine.R.bad
  | some vs => match setLocs cks (tgNames t) vs loc with
    | Option.none => Mine.R.bad
    | some cloc => (allT (testE T n cks cloc) true conds H).bind fun c H => if c then (evalE T n cks cloc elt H).bind fun v H => match v with
        | .d d => .ok (some d) H
        | .loc _ => .bad
      else .ok Option.none H
theorem ItemF.ok {t : Tg} {conds : List Ex} {elt : Ex} {x : Mine.D} {y : Option Mine.D} (h : ItemF T n cks t loc conds elt x H = .ok y H') :
    ∃ vs cloc, tgVals t x = some vs ∧ setLocs cks (tgNames t) vs loc = some cloc ∧ ∃ c H1, allT (testE T n cks cloc) true conds H = .ok c H1 ∧
      ((c = false ∧ y = Option.none ∧ H' = H1) ∨ (c = true ∧ ∃ d, y = some d ∧ evalE T n cks cloc elt H1 = .ok (.d d) H')) := by
  revert h; revert T H H' n cks loc t conds elt x y
  refine @(eps10 (P := ?P) (dT, dH, dH, dN, dK, dL, (Tg.one 0), (default : List Mine.Ex), Ex.none, dd) rfl ((?m : Pi10 ?P) _ _ _ _ _ _ _ _ _ _))
  intro T H H' n cks loc t conds elt x y h
  unfold ItemF at h
  cases hv : tgVals t x with
  | none => rw [hv] at h; exact nomatch h
  | some vs =>
    rw [hv] at h
    have h : (match setLocs cks (tgNames t) vs loc with | Option.none => Mine.R.bad | some cloc => _) = Mine.R.ok y H' := h
    cases hl : setLocs cks (tgNames t) vs loc with
    | none => rw [hl] at h; exact nomatch h
    | some cloc =>
      rw [hl] at h
      refine ⟨vs, cloc, rfl, hl, ?_⟩
      refine E2A2 (R.bind_ok (show (allT (testE T n cks cloc) true conds H).bind _ = Mine.R.ok y H' from h)) fun c H1 e1 e2 => ⟨c, H1, e1, ?_⟩
      induction c with
      | false => cases e2; exact .inl ⟨rfl, rfl, rfl⟩
      | true =>
        refine E2A2 (R.bind_ok (show (evalE T n cks cloc elt H1).bind _ = Mine.R.ok y H' from e2)) fun v H2 e3 e4 => ?_
        induction v with
        | loc => exact nomatch e4
        | d d => cases e4; exact .inr ⟨rfl, d, rfl, e3⟩
theorem comp_turn {tg elt : Expr} {t : Tg} {conds : List Expr} {u0 : Unit} {H2 : Hp} {k : Nat} {Rs : Result → Shared → Prop} {l : List Mine.D} (N : NamesOK X) (hE : SndE X cG T n) (hT : SndT X cG T n) (hA : AOK n A fs) (hV4 : EnvOK X E1 cks) (htg : rTg X.f tg = some t)
    (hfree : ∀ v m, loc.lookup m = some v → cks.lookup m = some .free) (hB : X.B.objs.size ≤ s1.heap.objs.size) (ho : ∀ b, ownOf X E1 cks b → s1.heap.objs.size ≤ b ∧ b ≠ s1.heap.objs.size)
    (hRs : ∀ ρ s, Went X fs noOwn ρ1 s1 ρ s → At X fs E1 cks loc ρ H2 s → ρ[h1]? = some (D, D) → Rs (.ok .next) s)
    (hI : CoI X fs E1 cks ρ1 s1 src xv D C h1 loc (ItemF T n cks t loc (conds.map (erE X.f m)) (erE X.f m elt)) (.ok u0 H2) k s) :
    wpAny X.M A (pyNext (.ref s1.heap.objs.size)) (fun r s₁ => match r with
      | none => Rs (.ok .next) s₁
      | some v => wpAny X.M A (letOwnedTupleGo tg (.ref s1.heap.objs.size) v) (fun _ s₁' => wpAny X.M A (assign tg E1 v) (fun _ s₂ =>
          wpAny X.M A (forIn conds true fun c r => if r = true then do let ok ← PySem.isTrue c E1 (eval c E1); pure (ForInStep.yield ok) else pure (ForInStep.yield r)) (fun ok s₃ =>
            if ok = true then wpAny X.M A (eval elt E1) (fun x s₄ =>
              wpAny X.M A (call (.builtin "list.append") [.ref D, x]) (fun _ s₅ => ∃ m', m' < k ∧ CoI X fs E1 cks ρ1 s1 src xv D C h1 loc (ItemF T n cks t loc (conds.map (erE X.f m)) (erE X.f m elt)) (.ok u0 H2) m' s₅) (fun _ _ => False) s₄) (fun _ _ => False) s₃
            else ∃ m', m' < k ∧ CoI X fs E1 cks ρ1 s1 src xv D C h1 loc (ItemF T n cks t loc (conds.map (erE X.f m)) (erE X.f m elt)) (.ok u0 H2) m' s₃) (fun _ _ => False) s₂) (fun _ _ => False) s₁') (fun _ _ => False) s₁) (fun _ _ => False) s := by
  revert N hE hT hA hV4 htg hfree hB ho hRs hI; revert X cG T fs A s s1 n m E1 cks ρ1 src xv D C h1 loc tg elt t conds u0 H2 k Rs l
  refine @(eps25 (P := ?P) (dX, dN, dT, dG, dA, dS, dS, dN, dN, dE, dK, dR, dv, dV, dN, dN, dN, dL, de, de, (Tg.one 0), dl, (default : Unit), dH, dN) rfl ((?m : Pi25 ?P) _ _ _ _ _ _ _ _ _ _ _ _ _ _ _ _ _ _ _ _ _ _ _ _ _))
  intro X cG T fs A s s1 n m E1 cks ρ1 src xv D C h1 loc tg elt t conds u0 H2 k Rs l N hE hT hA hV4 htg hfree hB ho hRs hI
  obtain ⟨i, ρ5, H5, c5, e5⟩ := hI
  generalize hJ : CoI X fs E1 cks ρ1 s1 src xv D C h1 loc (ItemF T n cks t loc (conds.map (erE X.f m)) (erE X.f m elt)) (.ok u0 H2) = J
  have fin : ∀ {k' i' : Nat} {ρ' : Rho} {H' : Hp} {s' : Shared}, CoS X fs E1 cks ρ1 s1 src xv D C h1 i' loc ρ' H' s' → compL src (ItemF T n cks t loc (conds.map (erE X.f m)) (erE X.f m elt)) h1 k' i' H' = .ok u0 H2 → J k' s' := by rw [← hJ]; exact fun c e => ⟨_, _, _, c, e⟩
  clear hJ
  generalize hF : ItemF T n cks t loc (conds.map (erE X.f m)) (erE X.f m elt) = F at e5 fin
  cases k with
  | zero => cases e5
  | succ k =>
  have e5 : (match nextItem H5 src i with | Option.none => Mine.R.bad | some Option.none => Mine.R.ok () H5 | some (some x) => _) = Mine.R.ok u0 H2 := e5
  cases hq : nextItem H5 src i with
  | none => rw [hq] at e5; cases e5
  | some r =>
    rw [hq] at e5
    refine next_any hA c5.a.inv hq c5.R c5.hit (fun er s6 S6 => ?_) fun d er u2 s6 S6 Rd hit6 => ?_
    · rw [er] at e5
      have e5' : (Mine.R.ok () H5 : Mine.R Unit) = .ok u0 H2 := e5
      injection e5' with _ e6
      have z := c5.a.turn0 c5.hit hB c5.hitW (fun q => (ho _ q).2 rfl) S6
      exact hRs ρ5 s6 (c5.w.next (Ext.refl _ _) S6 fun b l q => absurd l (by rw [q]; exact Nat.lt_irrefl _)) (e6 ▸ z.1) c5.hD
    · rw [er] at e5
      have kv := (c5.a.turn0 c5.hit hB c5.hitW (fun q => (ho _ q).2 rfl) S6).2
      have c6 := c5.turn hB (fun q => (ho _ q).2 rfl) S6 hit6
      refine E2A2 (R.bind_ok (show (F d H5).bind _ = Mine.R.ok u0 H2 from e5)) fun y H7 e6 e7 => ?_
      rw [← hF] at e6
      refine letGo_it hit6 ?_
      refine E2A3 (ItemF.ok e6) fun vs cloc hvs hcl hz => ?_
      refine target_any N hA hV4 htg hvs hcl c6.a (kv (.d d) u2 Rd) fun s7 a7 S7 => ?_
      have less : ∀ {s : Shared} {ρ : Rho} {H : Hp}, At X fs E1 cks cloc ρ H s → At X fs E1 cks loc ρ H s := fun {s ρ H} a => ⟨a.inv, a.fr.less fun k v h => by
        rw [setLocs_other (by unfold isStore; rw [hfree v k h]) _ _ _ _ hcl]; exact h⟩
      have c7 := c6.owned ho a7 S7
      refine E2A2 (hz) fun c H8 e8 e9 => ?_
      refine wpAny_mono (JE.get (tests_snd hT hA hV4 conds a7) e8) (fun ok s8 z => ?_) fun _ _ z => z
      obtain ⟨ρ8, x8, I8, R8, S8⟩ := z
      have c8 := c7.next x8 I8 S8
      cases R8
      rcases e9 with ⟨hc, hy, hH⟩ | ⟨hc, dd, hy, e10⟩
      · rw [hc, if_neg (by decide)]
        rw [hy] at e7
        rw [hH] at e7
        exact ⟨k, Nat.lt_succ_self k, fin (c8.at (less c8.a)) e7⟩
      · rw [hc, if_pos rfl]
        refine wpAny_mono (JE.get (hE fs A _ cks cloc ρ8 H8 s8 m elt hA hV4 c8.a) e10) (fun u9 s9 z => ?_) fun _ _ z => z
        obtain ⟨ρ9, x9, I9, R9, S9⟩ := z
        have c9 := c8.next x9 I9 S9
        rw [hy] at e7
        have e7 : (match H7[h1]? with | some (.list l) => R.guard (decide (l.length < 16000)) (compL src F h1 k (i + 1) (H7.set h1 (.list (l ++ [dd])))) | _ => Mine.R.bad) = Mine.R.ok u0 H2 := e7
        cases hl' : H7[h1]? with
        | none => rw [hl'] at e7; cases e7
        | some o =>
          rw [hl'] at e7
          induction o with
          | inst => cases e7
          | list l' =>
            have e7 : R.guard (decide (l'.length < 16000)) _ = Mine.R.ok u0 H2 := e7
            cases hgd : decide (l'.length < 16000) with
            | false => rw [hgd] at e7; cases e7
            | true =>
              rw [hgd] at e7
              refine wpAny_mono (JE.get (append_snd (own := noOwn) (cG := cG) (A := A) I9 c9.hD hl' R9 (of_decide_eq_true hgd)) rfl) (fun _ s10 z => ?_) fun _ _ z => z
              obtain ⟨ρ10, x10, I10, _, S10⟩ := z
              have c10 := c9.next x10 I10 S10
              exact ⟨k, Nat.lt_succ_self k, fin (c10.at (less c10.a)) e7⟩
end
theorem comp_snd (N : NamesOK X) (hE : SndE X cG T n) (hT : SndT X cG T n) : SndL X cG T n := by
  intro fs A env ks loc ρ H s m elt tg iter conds sc p t cks hA hV a htg hsc hiter
  revert N hE hT hA hV a htg hsc hiter; revert X cG T n fs A env ks loc ρ H s m elt tg iter conds sc p t cks
  refine @(eps19 (P := ?P) (dX, dN, dT, dN, dG, dA, dE, dK, dL, dR, dH, dS, dN, de, de, de, dl, (default : PySem.Scope), dp) rfl ((?m : Pi19 ?P) _ _ _ _ _ _ _ _ _ _ _ _ _ _ _ _ _ _ _))
  intro X cG T n fs A env ks loc ρ H s m elt tg iter conds sc p t cks N hE hT hA hV a htg hsc hiter
  have hA := hA.le (Nat.le_succ n)
  refine JE.guard fun hok => ?_
  rw [eval_ListComp]
  show JE X cG fs A (comprehension (.ListComp elt [⟨tg, iter, conds, 0⟩] sc p) sc env iter.pos (newList []) false (eval iter env)) _ _ _ _ _
  refine E0A6 (cenv_ok N hV a hsc hok (C := s.heap.objs.size) (Nat.le_refl _)) fun hkind hcell hnames hclos _ _ => ?_
  have hs : ∀ x, foldedSetIterable iter env x = pure x := fun x => by cases iter <;> first | rfl | cases hiter
  have z := hE fs A env ks loc ρ H s m iter hA hV a
  cases q : evalE T n ks loc (erE X.f m iter) H with
  | bad => trivial
  | exc msg sp H1 =>
    rw [q] at z
    exact wpAny_comprehension_free (use := none) (g := ⟨tg, iter, conds, 0⟩) rfl hs hclos hkind hnames (wpAny_mono z (fun _ _ x => x.elim) fun _ _ x => x)
  | ok src H1 =>
    rw [q] at z
    show JE X cG fs A _ _ _ _ ((compL src (ItemF T n cks t (freeOf cks loc) (conds.map (erE X.f m)) (erE X.f m elt)) H1.length LK 0 (H1 ++ [.list []])).only.bind fun _ H' => compEnd H1.length H') _
    generalize hf : ItemF T n cks t (freeOf cks loc) (conds.map (erE X.f m)) (erE X.f m elt) = f
    show JE X cG fs A _ _ _ _ ((compL src f H1.length LK 0 (H1 ++ [.list []])).only.bind fun _ H' => compEnd H1.length H') _
    cases q2 : compL src f H1.length LK 0 (H1 ++ [.list []]) with
    | bad => trivial
    | exc => trivial
    | ok u0 H2 =>
    show JE X cG fs A _ _ _ _ (compEnd H1.length H2) _
    show JE X cG fs A _ _ _ _ (match H2[H1.length]? with | some (.list l) => _ | _ => Mine.R.bad) _
    cases hl : H2[H1.length]? with
    | none => trivial
    | some o1 =>
    induction o1 with
    | inst => trivial
    | list l =>
      refine JE.guard fun hlen => JE.ok ?_
      have hlen := of_decide_eq_true hlen
      refine wpAny_comprehension_free (use := none) (g := ⟨tg, iter, conds, 0⟩) rfl hs hclos hkind hnames (wpAny_mono z (fun xv s1 y => ?_) fun _ _ x => x.elim)
      obtain ⟨ρ1, x1, I1, R1, S1⟩ := y
      have a1 := a.next x1 I1 S1
      have hlr : ρ1.length = H1.length := I1.rel.len
      have hn0 : nextItem H1 src 0 ≠ none := fun q => by
        have q2 : (match nextItem (H1 ++ [.list []]) src 0 with | Option.none => Mine.R.bad | some Option.none => Mine.R.ok () _ | some (some x) => _) = Mine.R.ok u0 H2 := q2
        rw [nextItem_app hlr R1, q] at q2
        cases q2
      refine iter_any I1 hn0 R1 fun s2 S2 hit tk2 => wpAny_newList (wpAny_newFunctionEnv hcell (by intro y hy; cases hy) (fun h₁ hns hsb => ?_) hkind) (by show 0 ≤ _; exact Nat.zero_le _)
      have I2 := I1.step0 S2
      have lt2 : s1.heap.objs.size < s2.heap.objs.size := by obtain ⟨o, vs, g, _⟩ := hit; exact Heap.lt_size g
      have hC1 : (s2.heap.push { cls := .type "list", data := .seq ([] : List Value).toArray }).objs.size = s2.heap.objs.size + 1 := Heap.size_push ..
      dsimp only at hns hsb ⊢
      generalize hH3 : s2.heap.push { cls := .type "list", data := .seq ([] : List Value).toArray } = H3 at hns hsb hC1 ⊢
      generalize hCdef : H3.objs.size = C at hns hsb hC1 ⊢
      have hk : ∀ b o, s2.heap.get? b = some o → h₁.get? b = some o := fun b o e => hsb.extBut b o (by rw [hC1]; exact Nat.ne_of_lt (Nat.lt_succ_of_lt (Heap.lt_size e))) (Heap.get?_push_of_some _ (hH3 ▸ Heap.get?_push_of_some _ e))
      have hD : h₁.get? s2.heap.objs.size = some (lstO #[] 0) := hsb.extBut _ _ (by rw [hC1]; exact Nat.ne_of_lt (Nat.lt_succ_self _)) (Heap.get?_push_of_some _ (hH3 ▸ Heap.get?_push_size _ rfl))
      have hz : s2.heap.objs.size ≤ h₁.objs.size := by rw [hsb.1, Heap.size_push, hCdef, hC1]; lia
      have hCs1 : s1.heap.objs.size ≤ C := by rw [hC1]; lia
      refine E0A2 (I2.new (o := .list []) (h := h₁) (k := s2.toks + ([] : List (Str × Value)).length) (p := (s2.heap.objs.size, s2.heap.objs.size)) ⟨Nat.le_refl _, Nat.le_refl _⟩ hk hz ⟨rfl, #[], 0, hD, rfl⟩) fun E4 I4 => ?_
      generalize hs4 : ({ s2 with heap := h₁, toks := s2.toks + ([] : List (Str × Value)).length } : Shared) = s4 at I4
      have hs4h : s4.heap = h₁ := by rw [← hs4]
      have S3 : Step fs Wr0 s2 s4 := by rw [← hs4]; exact Step.keeps fs Wr0 s2 hk hz
      have S13 : Step fs Wr0 s1 s4 := S2.trans S3 fun _ _ z => z
      have w4 : Went X fs noOwn ρ1 s1 (ρ1 ++ [(s2.heap.objs.size, s2.heap.objs.size)]) s4 := ⟨E4.low S2.size, S13.mono fun _ z => z.elim⟩
      refine E0A6 (cenv_ok N hV a1 hsc hok hCs1) fun _ _ _ _ hV4 hfr => ?_
      have notC : ∀ {b : Addr}, ¬ Wr ρ1 b → b < s2.heap.objs.size → ¬ Wr (ρ1 ++ [(s2.heap.objs.size, s2.heap.objs.size)]) b := fun h l z => by
        rcases Wr.app.mp z with z | ⟨q, hq, z⟩
        · exact h z
        · rw [List.mem_singleton.mp hq] at z
          rcases z with rfl | rfl <;> exact Nat.lt_irrefl _ l
      have hWC : ¬ Wr (ρ1 ++ [(s2.heap.objs.size, s2.heap.objs.size)]) C := fun z => by
        rcases Wr.app.mp z with z | ⟨q, hq, z⟩
        · exact absurd (I1.alive z) (Nat.not_lt.mpr hCs1)
        · rw [List.mem_singleton.mp hq, hC1] at z
          rcases z with z | z <;> exact absurd z (Nat.succ_ne_self _)
      have a4 : At X fs (compEnvC sc (closL env sc.names []) C env) cks (freeOf cks loc) (ρ1 ++ [(s2.heap.objs.size, s2.heap.objs.size)]) (H1 ++ [.list []]) s4 := by
        refine ⟨I4, ⟨_, by rw [hs4h]; exact hns, fun k v hk' hv => ?_⟩, fun k hk' => ?_, fun k v hv => ?_, hWC⟩
        · rw [freeOf_lookup, if_neg (by rw [hk']; intro q; cases q)] at hv; cases hv
        · have hfree : cks.lookup k = some .free := by
            rcases hk' with hk' | hk'
            · exact absurd rfl (compOk_mem hok (lookup_mem hk')).1
            · exact hk'
          refine E0A2 (hfr k hfree) fun e1 e2 => ?_
          refine E3A5 (a1.fr.cel k e2) fun c o cv q1 q2 q3 q4 q5 => ?_
          refine E1A4 (S13.data q2 fun z => z.elim) fun o' g' d' _ _ => ?_
          refine ⟨c, o', cv, e1.trans q1, g', d'.trans q3, notC q4 (Nat.lt_trans (Heap.lt_size q2) lt2), fun v hv => ?_⟩
          rw [freeOf_lookup, if_pos hfree] at hv
          refine E1A2 (q5 v hv) fun val p1 p2 => ?_
          exact ⟨val, p1, VRel.step I1.stk S13.of0 w4.ext p2⟩
        · rw [freeOf_lookup] at hv
          split at hv
          · rename_i hfree; exact ⟨(a.fr.dom k v hv).1, .inr (.inr hfree)⟩
          · cases hv
      have R4 := VRel.step I1.stk S13.of0 w4.ext R1
      have hit4 : ItRel s4.heap s1.heap.objs.size src xv 0 := by rw [hs4h]; exact hit.at fun o g _ _ => hk _ _ g
      have hCown : ∀ b, ownOf X (compEnvC sc (closL env sc.names []) C env) cks b → b = C := fun b h => by
        rcases h with h | ⟨k, hk', _⟩
        · exact h
        · exact absurd rfl (compOk_mem hok (lookup_mem hk')).1
      have hitW4 : ¬ Wr (ρ1 ++ [(s2.heap.objs.size, s2.heap.objs.size)]) s1.heap.objs.size := notC I1.fresh lt2
      have hCf : ∀ e ∈ fs, e.frame ≠ some C := fun e he q => by
        obtain ⟨_, L, o, es, k, f, _, g, _⟩ := I1.stk e he
        rw [f] at q; cases q
        exact absurd (Heap.lt_size g) (Nat.not_lt.mpr hCs1)
      have hfree : ∀ v m, (freeOf cks loc).lookup m = some v → cks.lookup m = some .free := fun v m h => by
        rw [freeOf_lookup] at h
        split at h
        · assumption
        · cases h
      have loop : codeAny X.M A (.compLoop (.ListComp elt [⟨tg, iter, conds, 0⟩] sc p) 0 (.ref s1.heap.objs.size) (.ref s2.heap.objs.size) (compEnvC sc (closL env sc.names []) C env))
          (compPost X.M A (fun _ _ => False) none (JOk X fs noOwn ρ s (VRel X) (.d (.list l)) (H2.take H1.length)) (.ref s2.heap.objs.size) C) s4 := by
        have ho : ∀ b, ownOf X (compEnvC sc (closL env sc.names []) C env) cks b → s1.heap.objs.size ≤ b ∧ b ≠ s1.heap.objs.size := fun b q => by
          rw [hCown b q]
          exact ⟨hCs1, by rw [hC1]; lia⟩
        refine compLoop_any (CoI X fs (compEnvC sc (closL env sc.names []) C env) cks ρ1 s1 src xv s2.heap.objs.size C H1.length (freeOf cks loc) (ItemF T n cks t (freeOf cks loc) (conds.map (erE X.f m)) (erE X.f m elt)) (.ok u0 H2))
          (fun k s5 hI => comp_turn (l := l) N hE hT hA hV4 htg hfree I1.sz ho (fun ρ6 s6 w6 a6 hD6 => ?_) hI) LK ⟨0, _, _, ⟨w4, a4, R4, hit4, hitW4, ?_, ?_⟩, by rw [hf]; exact q2⟩
        · refine E1A2 (a6.fr.ns) fun mm hns6 _ => ?_
          refine ⟨mm, hns6, fun h' hs' => ?_⟩
          obtain ⟨I7, kk⟩ := a6.inv.but hs' (Nat.le_trans I1.sz hCs1) a6.fr.off (fun o g so => by
            refine E3A3 (hns6) fun o' es ep g' d' _ => ?_; try clear hns6
            rw [show (compEnvC sc (closL env sc.names []) C env).locals = C from rfl, g] at g'
            cases g'
            exact so.flat.1 _ _ d') hCf
          have ht : ρ6.take H1.length = ρ1 := by rw [← hlr]; exact w6.ext.take
          have I8 := I7.trunc H1.length
          rw [ht] at I8
          have hne' : s2.heap.objs.size ≠ C := by rw [hC1]; exact Nat.ne_of_lt (Nat.lt_succ_self _)
          obtain ⟨e', its, c', g', r'⟩ := a6.inv.rel.obj _ _ _ hD6 hl
          have r8 : DRels X h' ρ1 l its.toList := by
            have := DRels.take (k := H1.length) (DRels.mono kk r')
            rw [ht] at this
            exact this
          refine ⟨ρ1, x1, I8, ⟨_, its, c', rfl, (hs'.2 _ hne').trans g', fun z => absurd (I1.alive z) (Nat.not_lt.mpr (Nat.le_of_lt lt2)), r8⟩, ?_⟩
          have S17 : Step fs (fun a => noOwn a ∨ Wr ρ1 a) s1 { s6 with heap := h' } := by
            have w := w6.fin
            have hb : ∀ {b : Addr}, b < s1.heap.objs.size → b ≠ C := fun l q => by rw [q] at l; exact absurd l (Nat.not_lt.mpr hCs1)
            refine ⟨w.gens, w.os, Nat.le_trans w.size (Nat.le_of_eq hs'.1.symm), fun b o e n => ?_, fun b o es k e q => ?_⟩
            · refine E1A2 (w.keep b o e n) fun sl g q => ?_
              exact ⟨sl, (hs'.2 b (hb (Heap.lt_size e))).trans g, q⟩
            · refine E3A2 (w.flat b o es k e q) fun o' es' k' g q' => ?_
              exact ⟨o', es', k', (hs'.2 b (hb (Heap.lt_size e))).trans g, q'⟩
          exact S1.trans S17 fun b l q => q.imp (fun z => z) fun z => (x1.old l).mp z
        · rw [List.getElem?_append_right (by rw [hlr]; exact Nat.le_refl _), hlr, Nat.sub_self]; rfl
        · rw [hs4h, hsb.1, Heap.size_push, hCdef]; exact Nat.lt_succ_self _
      exact codeAny_compStart_list loop (iterit_any hit4 loop)
end
end Mine
end
section
namespace Mine
open PySem PySem.Calls PyProof.Rows PySem.W
structure FnOK (X : Wd) (f : Fn) (a : Addr) (fd : FuncData) (body : List Stmt) (m : Nat) : Prop where
  obj : ∃ o, X.B.get? a = some o ∧ o.data = .func fd
  stm : fd.body = .stmts body
  code : X.B.CodeRec fd.code fd.qualname
  glob : fd.globals = mainGlobals
  blt : fd.builtins = builtinsNs
  clo : fd.closure = []
  read : rScope X.f fd.scope = some f.ks
  erase : f.body = body.map (erS X.f f.ks m)
  nofree : ∀ n, f.ks.lookup n ≠ some .free
  nd : f.params.Nodup
  kinds : ∀ p ∈ f.params, isStore f.ks p = true ∧ X.f (X.nm p) = some p
  cells : ((cellsFrom 0 fd.scope.names []).map (·.1)).Nodup
  bind : ∀ (s : Shared) (ρ : Rho) (vs : List V) (ws : List Value) (loc : Loc), Based X s.heap → (∀ d v, DRel X X.B [] d v → DRel X s.heap ρ d v) → VRels X s.heap ρ vs ws → bindP f vs = some loc →
    ∃ us, BindsTo s fd ⟨ws, []⟩ ((f.params.map X.nm).zip us) ∧ VRels X s.heap ρ (loc.map (·.2)) us ∧ loc.map (·.1) = f.params
noncomputable def FnsOK (X : Wd) (T : Tab) : Prop := ∀ g f, T.fn g = some f → ∃ a fd body m, X.gval g = .ref a ∧ FnOK X f a fd body m
noncomputable def LeaveSnd (X : Wd) (cG : Addr) : Prop := ∀ (fs : List Env) (A : Around) (env : Env) (ρ : Rho) (H : Hp) (s : Shared) (e : Value) (m : Str) (sp : D) (n0 n : Nat), AOK n A fs → fs.head? = some env → env.frame = some env.locals → env.globals = mainGlobals → X.B.objs.size ≤ n0 → (∀ e ∈ fs, ∀ L, e.frame = some L → L < n0) → Inv X fs ρ H s → ExcRel X cG n0 s.heap ρ e m sp →
  wpAny X.M A (leaving env e) (fun _ s' => Inv X fs ρ H s' ∧ ExcRel X cG n0 s'.heap ρ e m sp ∧ Step fs (fun a => n0 ≤ a) s s') (fun _ _ => False) s
section
variable {X : Wd} {cG : Addr} {T : Tab} {K : Frag} {fs : List Env} {A : Around} {s s0 s1 s' : Shared} {ρ ρ' : Rho} {env : Env} {ks : Ks} {loc : Loc} {H H' : Hp} {n m : Nat} {own : Addr → Prop}
theorem lookup_mem_str {α : Type} {x : Str} {k : α} {l : List (Str × α)} : l.lookup x = some k → (x, k) ∈ l := by
  induction l with
  | nil => intro h; cases h
  | cons p r ih =>
    intro h
    rw [show (p :: r).lookup x = (match x == p.1 with | true => some p.2 | false => r.lookup x) from rfl] at h
    cases q : x == p.1 with
    | true => rw [q] at h; cases h; rw [eq_of_beq q]; exact List.mem_cons_self
    | false => rw [q] at h; exact List.mem_cons_of_mem _ (ih h)
theorem lookup_off {α : Type} {x : Str} {l : List (Str × α)} (h : x ∉ l.map (·.1)) : l.lookup x = none := by
  cases z : l.lookup x with
  | none => rfl
  | some v => exact absurd (List.mem_map_of_mem (f := (·.1)) (lookup_mem_str z)) h
theorem bindL_zip {k : Str → Option NameKind} {x : Str} (hk : k x = some .local) (l : List (Str × Value)) : ∀ (m0 : Str → Option Value), (l.map (·.1)).Nodup → bindL k l m0 x = (match l.lookup x with | some v => some v | none => m0 x) := by
  induction l with
  | nil => exact fun _ _ => rfl
  | cons p r ih =>
    intro m0 hd
    obtain ⟨y, v⟩ := p
    rw [List.map_cons, List.nodup_cons] at hd
    refine (ih _ hd.2).trans ?_
    rw [List.lookup_cons]
    cases q : x == y with
    | true =>
      obtain rfl := beq_iff_eq.mp q
      rw [lookup_off hd.1]
      dsimp only
      rw [if_pos hk, if_pos rfl]
    | false =>
      cases r.lookup x with
      | some v' => rfl
      | none =>
        dsimp only
        by_cases c : k y = some .local
        · rw [if_pos c]; exact if_neg (beq_eq_false_iff_ne.mp q)
        · rw [if_neg c]
theorem bindC_zip {k : Str → Option NameKind} {x : Str} (hk : k x ≠ some .local) (l : List (Str × Value)) : ∀ (m0 : Str → Option Value), (l.map (·.1)).Nodup → bindC k l m0 x = (match l.lookup x with | some v => some v | none => m0 x) := by
  induction l with
  | nil => exact fun _ _ => rfl
  | cons p r ih =>
    intro m0 hd
    obtain ⟨y, v⟩ := p
    rw [List.map_cons, List.nodup_cons] at hd
    refine (ih _ hd.2).trans ?_
    rw [List.lookup_cons]
    cases q : x == y with
    | true =>
      obtain rfl := beq_iff_eq.mp q
      rw [lookup_off hd.1]
      dsimp only
      rw [if_neg hk, if_pos rfl]
    | false =>
      cases r.lookup x with
      | some v' => rfl
      | none =>
        dsimp only
        by_cases c : k y = some .local
        · rw [if_pos c]
        · rw [if_neg c]; exact if_neg (beq_eq_false_iff_ne.mp q)
theorem zip_lookup (N : NamesOK X) {h : Heap} {n : Nat} {v : V} (ps : List Nat) : ∀ (loc : Loc) (us : List Value), loc.map (·.1) = ps → VRels X h ρ (loc.map (·.2)) us → loc.lookup n = some v → ∃ u, ((ps.map X.nm).zip us).lookup (X.nm n) = some u ∧ VRel X h ρ v u := by
  induction ps with
  | nil =>
    intro loc us e R hv
    cases loc with
    | nil => cases hv
    | cons => cases e
  | cons p ps ih =>
    intro loc us e R hv
    cases loc with
    | nil => cases e
    | cons q loc =>
      refine E2A3 (R) fun u r hz2 h1 h2 => ?_; subst hz2; try clear R
      injection e with e0 e
      subst e0
      obtain ⟨k, w⟩ := q
      rw [lookup_cons'] at hv
      rw [List.map_cons, List.zip_cons_cons, List.lookup_cons]
      by_cases hn : n = k
      · subst hn
        rw [if_pos rfl] at hv
        cases hv
        rw [beq_self_eq_true]
        exact ⟨u, rfl, h1⟩
      · rw [if_neg hn] at hv
        rw [beq_eq_false_iff_ne.mpr fun z => hn (N.nmInj _ _ z)]
        exact ih loc r e h2 hv
theorem cellsFrom_mem {x : Str} (names : List (Str × NameKind)) : ∀ (n : Nat) (acc : List (Str × Addr)), (x, NameKind.cell) ∈ names ∨ (acc.lookup x).isSome = true → ((cellsFrom n names acc).lookup x).isSome = true := by
  induction names with
  | nil => exact fun n acc h => h.elim (fun h => nomatch h) id
  | cons p r ih =>
    intro n acc h
    obtain ⟨y, k⟩ := p
    show ((if (k == NameKind.cell) = true then cellsFrom (n + 1) r ((y, n) :: acc) else cellsFrom n r acc).lookup x).isSome = true
    by_cases hk : (k == NameKind.cell) = true
    · rw [if_pos hk]
      refine ih _ _ ?_
      rw [List.lookup_cons]
      rcases h with h | h
      · rcases List.mem_cons.mp h with h | h
        · cases h; right; rw [beq_self_eq_true]; rfl
        · exact .inl h
      · right; cases x == y <;> first | rfl | exact h
    · rw [if_neg hk]
      refine ih _ _ (h.imp (fun h => ?_) id)
      rcases List.mem_cons.mp h with h | h
      · cases h; exact absurd rfl hk
      · exact h
theorem leave_ok {v : V} {w : Value} (I : Inv X fs ρ' H' s) (e : Ext ρ s0.heap.objs.size ρ') (hlen : ρ.length = H.length) (R : VRel X s.heap ρ' v w) {r : V} {H2 : Hp} (hr : leaveF H.length (.ok (.ret v, loc) H') = .ok r H2) :
    ∃ ρ2, Ext ρ s0.heap.objs.size ρ2 ∧ Inv X fs ρ2 H2 s ∧ VRel X s.heap ρ2 r w := by
  revert I e hlen R hr; revert X fs s s0 ρ ρ' loc H H' v w r H2
  refine @(eps13 (P := ?P) (dX, dG, dS, dS, dR, dR, dL, dH, dH, dv, dV, dv, dH) rfl ((?m : Pi13 ?P) _ _ _ _ _ _ _ _ _ _ _ _ _))
  intro X fs s s0 ρ ρ' loc H H' v w r H2 I e hlen R hr
  have ht : ρ'.take H.length = ρ := by rw [← hlen]; exact e.take
  have It := I.trunc H.length
  rw [ht] at It
  induction v with
  | d x =>
    cases hr
    refine ⟨ρ, Ext.refl _ _, It, ?_⟩
    have := DRel.take (k := H.length) R
    rw [ht] at this
    exact this
  | loc i =>
    have hr : (if i < H.length then Mine.R.ok (.loc i) (H'.take H.length) else match H'[i]? with | some o => Mine.R.ok (.loc H.length) (H'.take H.length ++ [o]) | Option.none => Mine.R.bad) = Mine.R.ok r H2 := hr
    refine E1A2 (R) fun p hp hz2 => ?_; subst hz2; try clear R
    by_cases hi : i < H.length
    · rw [if_pos hi] at hr
      cases hr
      refine ⟨ρ, Ext.refl _ _, It, p, ?_, rfl⟩
      rw [← ht, List.getElem?_take, if_pos hi]; exact hp
    · rw [if_neg hi] at hr
      cases ho : H'[i]? with
      | none => rw [ho] at hr; cases hr
      | some o =>
        rw [ho] at hr
        cases hr
        refine E1A2 (e) fun τ hz1 hτ => ?_; subst hz1; try clear e
        have hp' : p ∈ τ := by
          rw [List.getElem?_append_right (by lia)] at hp
          exact List.mem_of_getElem? hp
        have hpi : i = (i - ρ.length) + ρ.length := by lia
        have wr : ∀ {a : Addr}, Wr (ρ ++ [p]) a → Wr (ρ ++ τ) a := fun h => by
          rcases Wr.app.mp h with h | ⟨q, hq, h⟩
          · exact Wr.app.mpr (.inl h)
          · rw [List.mem_singleton.mp hq] at h
            exact Wr.app.mpr (.inr ⟨p, hp', h⟩)
        have dk : ∀ a o, s.heap.get? a = some o → ¬ Wr (ρ ++ τ) a → Solid o → s.heap.get? a = some o ∧ ¬ Wr (ρ ++ [p]) a := fun a o g n _ => ⟨g, fun z => n (wr z)⟩
        have toO : ∀ {q : Addr × Addr} {o : O}, ORel X s.heap (ρ ++ τ) q o → ORel X s.heap (ρ ++ [p]) q o := fun {q o} z => by
          induction o with
          | list l => obtain ⟨e, its, n, g, r⟩ := z; exact ⟨e, its, n, g, DRels.mono dk r⟩
          | inst l => obtain ⟨g, es, n, g', r⟩ := z; exact ⟨g, es, n, g', FRels.mono dk r⟩
        refine ⟨ρ ++ [p], ⟨[p], rfl, fun q hq => by rw [List.mem_singleton.mp hq]; exact hτ p hp'⟩, ⟨⟨?_, fun j q o' hq ho' => ?_, fun j k q r ne hq hr' => ?_, fun q hq => ?_⟩, I.base, I.stk, fun e he L hL z => I.off e he L hL (wr z), I.sz⟩, p, ?_, rfl⟩
        · have := I.rel.len
          rw [List.length_append] at this
          rw [List.length_append, List.length_append, List.length_take, hlen]
          simp; lia
        · by_cases hj : j < ρ.length
          · rw [List.getElem?_append_left hj] at hq
            rw [List.getElem?_append_left (by rw [List.length_take]; have := I.rel.len; rw [List.length_append] at this; lia), List.getElem?_take, if_pos (by lia)] at ho'
            exact toO (I.rel.obj j q o' (by rw [List.getElem?_append_left hj]; exact hq) ho')
          · have hj' : j = ρ.length := by
              have := (List.getElem?_eq_some_iff.mp hq).1
              rw [List.length_append] at this
              simp at this; lia
            subst hj'
            rw [List.getElem?_append_right (Nat.le_refl _), Nat.sub_self] at hq
            have hl : (H'.take H.length).length = ρ.length := by rw [List.length_take, hlen]; have := I.rel.len; rw [List.length_append] at this; lia
            rw [List.getElem?_append_right (by rw [hl]; exact Nat.le_refl _), hl, Nat.sub_self] at ho'
            cases hq; cases ho'
            exact toO (I.rel.obj i p o hp ho)
        · have key : ∀ (j k : Nat) (q r : Addr × Addr), j < k → (ρ ++ [p])[j]? = some q → (ρ ++ [p])[k]? = some r → q.1 ≠ r.1 ∧ q.1 ≠ r.2 ∧ q.2 ≠ r.1 ∧ q.2 ≠ r.2 := by
            intro j k q r hjk hq hr
            have hk := (List.getElem?_eq_some_iff.mp hr).1
            rw [List.length_append, List.length_singleton] at hk
            have hjl : j < ρ.length := by lia
            have hq' : (ρ ++ τ)[j]? = some q := by rw [List.getElem?_append_left hjl] at hq ⊢; exact hq
            by_cases hkl : k < ρ.length
            · exact I.rel.apart j k q r (Nat.ne_of_lt hjk) hq' (by rw [List.getElem?_append_left hkl] at hr ⊢; exact hr)
            · have : k = ρ.length := by lia
              subst this
              rw [List.getElem?_append_right (Nat.le_refl _), Nat.sub_self] at hr
              cases hr
              exact I.rel.apart j i q p (by lia) hq' hp
          rcases Nat.lt_or_gt_of_ne ne with h | h
          · exact key j k q r h hq hr'
          · refine E0A4 (key k j r q h hr' hq) fun a b c d => ?_
            exact ⟨Ne.symm a, Ne.symm c, Ne.symm b, Ne.symm d⟩
        · rcases List.mem_append.mp hq with h | h
          · exact I.rel.above q (List.mem_append_left _ h)
          · exact I.rel.above q (List.mem_append_right _ (by rw [List.mem_singleton.mp h]; exact hp'))
        · rw [List.getElem?_append_right (by lia), hlen, Nat.sub_self]; rfl
end
end Mine
end
section
namespace Mine
open PySem PySem.Calls PyProof.Rows
theorem zip_lookup_some {α : Type} : ∀ (ns : List Str) (vs : List α), ns.length ≤ vs.length → ∀ n ∈ ns, ((ns.zip vs).lookup n).isSome = true
  | [], _, _, n, h => nomatch h
  | _ :: _, [], h, _, _ => by simp at h
  | m :: ns, v :: vs, h, n, hn => by
    rw [List.zip_cons_cons, List.lookup_cons]
    cases q : n == m with
    | true => rfl
    | false =>
      rcases List.mem_cons.mp hn with rfl | hn
      · simp at q
      · exact zip_lookup_some ns vs (by simpa using h) n hn
theorem zip_filterMap : ∀ (ns : List Str) (vs : List Value), ns.Nodup → ns.length = vs.length → (ns.filterMap fun n => ((ns.zip vs).lookup n).map (n, ·)) = ns.zip vs
  | [], [], _, _ => rfl
  | [], _ :: _, _, h => by cases h
  | _ :: _, [], _, h => by cases h
  | m :: ns, v :: vs, hd, h => by
    rw [List.nodup_cons] at hd
    rw [List.filterMap_cons, List.zip_cons_cons]
    simp only [List.lookup_cons, beq_self_eq_true, Option.map_some]
    congr 1
    refine Eq.trans ?_ (zip_filterMap ns vs hd.2 (by simpa using h))
    have aux : ∀ l : List Str, (∀ n ∈ l, n ≠ m) → (l.filterMap fun n => (match n == m with | true => some v | false => (ns.zip vs).lookup n).map (n, ·)) = l.filterMap fun n => ((ns.zip vs).lookup n).map (n, ·) := by
      intro l
      induction l with
      | nil => intro _; rfl
      | cons x l ih =>
        intro hx
        rw [List.filterMap_cons, List.filterMap_cons, ih fun n hn => hx n (List.mem_cons_of_mem _ hn)]
        have : (x == m) = false := beq_eq_false_iff_ne.mpr (hx x List.mem_cons_self)
        rw [this]
    exact aux ns fun n hn e => hd.1 (e ▸ hn)
theorem forIn_same {α β : Type} {f : α → β → Sem (ForInStep β)} {c : β} : ∀ {l : List α}, (∀ x ∈ l, f x c = pure (.yield c)) → forIn l c f = pure c
  | [], _ => by rw [List.forIn_nil]
  | x :: l, h => by
    rw [List.forIn_cons, h x List.mem_cons_self, pure_bind]
    exact forIn_same fun y hy => h y (List.mem_cons_of_mem _ hy)
theorem bind_exact {fd : FuncData} {as : List Arg} {kd : List (Option Expr)} {ds : List Expr} (hp : fd.params = ⟨[], as, none, [], kd, none, ds⟩) (hnd : (as.map (·.arg)).Nodup) {vs : List Value} (hl : vs.length = as.length) :
    ∃ k, bindArgs fd ⟨vs, []⟩ = seqItems? fd.defaults >>= k ∧ ∀ items, k items = pure ((as.map (·.arg)).zip vs) := by
  revert hp hnd hl; revert fd as kd ds vs
  refine @(eps4 (P := ?P) ((default : PySem.FuncData), (default : List PySem.Arg), (default : List (Option PySem.Expr)), dl) rfl ((?m : Pi4 ?P) _ _ _ _))
  intro fd as kd ds vs hp hnd hl
  cases fd
  dsimp only at hp
  subst hp
  have hNl : (as.map (·.arg)).length = vs.length := by rw [List.length_map, hl]
  have hsome := zip_lookup_some (as.map (·.arg)) vs (Nat.le_of_eq hNl)
  have hmiss : ∀ j, (List.filter (fun n => (List.lookup n ((as.map (·.arg)).zip vs)).isNone) (List.take j (as.map (·.arg)))) = [] := fun j => by
    rw [List.filter_eq_nil_iff]
    intro n hn
    have := hsome n (List.mem_of_mem_take hn)
    cases q : List.lookup n ((as.map (·.arg)).zip vs) with
    | none => rw [q] at this; cases this
    | some _ => exact Bool.false_ne_true
  refine ⟨_, rfl, fun items => (if_neg ?_).trans ((if_neg ?_).trans ?_)⟩
  · show ¬ (decide (vs.length > (as.map (·.arg)).length) && _) = true
    rw [hNl, decide_eq_false (Nat.lt_irrefl _)]
    exact Bool.false_ne_true
  · show ¬ (!(List.filter (fun n => (List.lookup n ((as.map (·.arg)).zip vs)).isNone) (List.take _ (as.map (·.arg)))).isEmpty) = true
    rw [hmiss]
    exact Bool.false_ne_true
  · show (forIn ((List.drop _ (as.map (·.arg) )).zip _) ((as.map (·.arg)).zip vs) _ >>= _) = _
    rw [forIn_same (c := (as.map (·.arg)).zip vs) (fun x hx => ?_), pure_bind]
    · show (forIn [] _ _ >>= _) = _
      rw [List.forIn_nil, pure_bind]
      refine (if_neg Bool.false_ne_true).trans ?_
      show (pure (((as.map fun (x : Arg) => x.arg) ++ []).filterMap _) : Sem _) = _
      rw [List.append_nil, zip_filterMap (as.map (·.arg)) vs hnd hNl]
    · have := hsome x.1 (List.mem_of_mem_drop (List.of_mem_zip (show (x.1, x.2) ∈ _ from hx)).1)
      refine if_neg ?_
      cases q : List.lookup x.1 ((as.map (·.arg)).zip vs) with
      | none => rw [q] at this; cases this
      | some _ => exact Bool.false_ne_true
theorem zip_lookup_none {α : Type} : ∀ (ns : List Str) (vs : List α) (n : Str), n ∉ ns.take vs.length → (ns.zip vs).lookup n = none
  | [], _, _, _ => rfl
  | _ :: _, [], _, _ => rfl
  | m :: ns, v :: vs, n, h => by
    rw [List.length_cons, List.take_succ_cons, List.mem_cons, not_or] at h
    rw [List.zip_cons_cons, List.lookup_cons, beq_eq_false_iff_ne.mpr h.1]
    exact zip_lookup_none ns vs n h.2
theorem lookup_app {α : Type} : ∀ (acc : List (Str × α)) (x : Str × α) (n : Str), acc.lookup n = none → n ≠ x.1 → (acc ++ [x]).lookup n = none
  | [], (x1, x2), n, _, ne => by rw [List.nil_append, List.lookup_cons, beq_eq_false_iff_ne.mpr ne]; rfl
  | (p1, p2) :: acc, x, n, h, ne => by
    rw [List.cons_append, List.lookup_cons]
    rw [List.lookup_cons] at h
    cases q : n == p1 with
    | true => rw [q] at h; cases h
    | false => rw [q] at h; exact lookup_app acc x n h ne
theorem forIn_app {f : Str × Value → List (Str × Value) → Sem (ForInStep (List (Str × Value)))} : ∀ (l acc : List (Str × Value)), (l.map (·.1)).Nodup → (∀ x ∈ l, acc.lookup x.1 = none) →
    (∀ x ∈ l, ∀ acc : List (Str × Value), acc.lookup x.1 = none → f x acc = pure (.yield (acc ++ [x]))) → forIn l acc f = pure (acc ++ l)
  | [], acc, _, _, _ => by rw [List.forIn_nil, List.append_nil]
  | x :: l, acc, hd, ha, hf => by
    rw [List.map_cons, List.nodup_cons] at hd
    rw [List.forIn_cons, hf x List.mem_cons_self acc (ha x List.mem_cons_self), pure_bind]
    refine (forIn_app (f := f) l (acc ++ [x]) hd.2 (fun y hy => ?_) fun y hy => hf y (List.mem_cons_of_mem _ hy)).trans (by rw [List.append_assoc]; rfl)
    have ne : y.1 ≠ x.1 := fun e => hd.1 (e ▸ List.mem_map_of_mem hy)
    exact lookup_app acc x y.1 (ha y (List.mem_cons_of_mem _ hy)) ne
theorem bind_dflt {fd : FuncData} {as : List Arg} {kd : List (Option Expr)} {ds : List Expr} (hp : fd.params = ⟨[], as, none, [], kd, none, ds⟩) (hnd : (as.map (·.arg)).Nodup) {vs us : List Value} {its : Array Value} (hi : its.toList = us) (hl : vs.length + us.length = as.length) :
    ∃ k, bindArgs fd ⟨vs, []⟩ = seqItems? fd.defaults >>= k ∧ k (some its) = pure ((as.map (·.arg)).zip (vs ++ us)) := by
  revert hp hnd hi hl; revert fd as kd ds vs us its
  refine @(eps7 (P := ?P) ((default : PySem.FuncData), (default : List PySem.Arg), (default : List (Option PySem.Expr)), dl, (default : List PySem.Value), (default : List PySem.Value), (default : Array PySem.Value)) rfl ((?m : Pi7 ?P) _ _ _ _ _ _ _))
  intro fd as kd ds vs us its hp hnd hi hl
  cases fd
  dsimp only at hp
  subst hp
  subst hi
  have hN : ∃ N1 N2 : List Str, as.map (·.arg) = N1 ++ N2 ∧ N1.length = vs.length ∧ N2.length = its.toList.length := by
    have hNl : (as.map (·.arg)).length = vs.length + its.toList.length := by rw [List.length_map, hl]
    refine ⟨(as.map (·.arg)).take vs.length, (as.map (·.arg)).drop vs.length, (List.take_append_drop _ _).symm, ?_, ?_⟩
    · rw [List.length_take]; lia
    · rw [List.length_drop]; lia
  refine E2A3 (hN) fun N1 N2 eN l1 l2 => ?_
  have hz : (N1 ++ N2).zip vs = N1.zip vs := by
    have := List.zip_append (l₁ := N1) (r₁ := N2) (l₂ := vs) (r₂ := []) l1
    simpa using this
  have hsome := zip_lookup_some N1 vs (Nat.le_of_eq l1)
  have hmiss : (List.filter (fun n => (List.lookup n (N1.zip vs)).isNone) N1) = [] := by
    rw [List.filter_eq_nil_iff]
    intro n hn
    have := hsome n hn
    cases q : List.lookup n (N1.zip vs) with
    | none => rw [q] at this; cases this
    | some _ => exact Bool.false_ne_true
  have hlN : (N1 ++ N2).length = vs.length + its.toList.length := by rw [List.length_append, l1, l2]
  have hd0 : List.drop (its.toList.length - (N1 ++ N2).length) its.toList = its.toList := by rw [hlN, show its.toList.length - (vs.length + its.toList.length) = 0 by lia, List.drop_zero]
  have hd1 : (N1 ++ N2).length - its.toList.length = N1.length := by rw [hlN, l1]; lia
  rw [eN] at hnd
  rw [List.nodup_append] at hnd
  refine ⟨_, rfl, (if_neg ?_).trans ((if_neg ?_).trans ?_)⟩
  · show ¬ (decide (vs.length > (as.map (·.arg)).length) && _) = true
    rw [List.length_map, ← hl, decide_eq_false (Nat.not_lt.mpr (Nat.le_add_right _ _))]
    exact Bool.false_ne_true
  · show ¬ (!(List.filter (fun n => (List.lookup n ((as.map (·.arg)).zip vs)).isNone) (List.take ((as.map (·.arg)).length - (List.drop (its.toList.length - (as.map (·.arg)).length) its.toList).length) (as.map (·.arg)))).isEmpty) = true
    rw [eN, hd0, hd1, List.take_left' rfl, hz, hmiss]
    exact Bool.false_ne_true
  · show (forIn ((List.drop ((as.map (·.arg)).length - (List.drop (its.toList.length - (as.map (·.arg)).length) its.toList).length) (as.map (·.arg))).zip (List.drop (its.toList.length - (as.map (·.arg)).length) its.toList)) ((as.map (·.arg)).zip vs) _ >>= _) = _
    rw [eN, hd0, hd1, List.drop_left' rfl, hz]
    have hk2 : ((N2.zip its.toList).map (·.1)) = N2 := List.map_fst_zip (Nat.le_of_eq l2)
    rw [forIn_app (N2.zip its.toList) (N1.zip vs) (by rw [hk2]; exact hnd.2.1) (fun x hx => ?_) (fun x hx acc hacc => ?_), pure_bind]
    · show (forIn [] _ _ >>= _) = _
      rw [List.forIn_nil, pure_bind]
      refine (if_neg Bool.false_ne_true).trans ?_
      show (pure (((N1 ++ N2) ++ []).filterMap _) : Sem _) = _
      rw [List.append_nil]
      have := zip_filterMap (N1 ++ N2) (vs ++ its.toList) (List.nodup_append.mpr hnd) (by rw [List.length_append, List.length_append, l1, l2])
      rw [List.zip_append l1] at this ⊢
      exact congrArg pure this
    · refine zip_lookup_none N1 vs x.1 fun hm => ?_
      have h2 : x.1 ∈ N2 := (List.of_mem_zip (show (x.1, x.2) ∈ N2.zip its.toList from hx)).1
      exact hnd.2.2 x.1 (List.mem_of_mem_take hm) x.1 h2 rfl
    · exact if_pos (by rw [hacc]; rfl)
theorem VRels.app {X : Wd} {h : Heap} {ρ : Rho} : ∀ {l l' : List V} {vs vs' : List Value}, VRels X h ρ l vs → VRels X h ρ l' vs' → VRels X h ρ (l ++ l') (vs ++ vs')
  | [], _, _, _, e, z => by rw [show _ = [] from e]; exact z
  | _ :: _, _, _, _, ⟨w, r, e, a, b⟩, z => ⟨w, r ++ _, by rw [e]; rfl, a, VRels.app b z⟩
theorem DRels.lift {X : Wd} {h : Heap} {ρ : Rho} (k : ∀ d v, DRel X X.B [] d v → DRel X h ρ d v) : ∀ {l : List D} {vs : List Value}, DRels X X.B [] l vs → VRels X h ρ (l.map V.d) vs
  | [], _, e => e
  | _ :: _, _, ⟨w, r, e, a, b⟩ => ⟨w, r, e, k _ _ a, DRels.lift k b⟩
theorem fn_bind {X : Wd} {f : Fn} {fd : FuncData} {as : List Arg} {kd : List (Option Expr)} {ds : List Expr} (hp : fd.params = ⟨[], as, none, [], kd, none, ds⟩) (hn : as.map (·.arg) = f.params.map X.nm) (hnd : (f.params.map X.nm).Nodup)
    (hd : (fd.defaults = .none ∧ f.dflts = []) ∨ ∃ T its n, fd.defaults = .ref T ∧ X.B.get? T = some (tupO its n) ∧ DRels X X.B [] f.dflts its.toList)
    (s : Shared) (ρ : Rho) (vs : List V) (ws : List Value) (loc : Loc) (hb : Based X s.heap) (k : ∀ d v, DRel X X.B [] d v → DRel X s.heap ρ d v) (R : VRels X s.heap ρ vs ws) (hbp : bindP f vs = some loc) :
    ∃ us, BindsTo s fd ⟨ws, []⟩ ((f.params.map X.nm).zip us) ∧ VRels X s.heap ρ (loc.map (·.2)) us ∧ loc.map (·.1) = f.params := by
  revert hp hn hnd hd hb k R hbp; revert X f fd as kd ds s ρ vs ws loc
  refine @(eps10 (P := ?P) (dX, dF, (default : PySem.FuncData), (default : List PySem.Arg), (default : List (Option PySem.Expr)), dl, dS, dR, (default : List Mine.V), (default : List PySem.Value)) rfl ((?m : Pi10 ?P) _ _ _ _ _ _ _ _ _ _))
  intro X f fd as kd ds s ρ vs ws loc hp hn hnd hd hb k R hbp
  have hal : as.length = f.params.length := by have := congrArg List.length hn; rwa [List.length_map, List.length_map] at this
  have rl := VRels.length R
  rw [← hn] at hnd
  unfold bindP at hbp
  split at hbp
  · rename_i hl
    cases hbp
    refine ⟨ws, fun M A E Q hq => ?_, by rw [List.map_snd_zip (by lia)]; exact R, List.map_fst_zip (by lia)⟩
    refine E1A2 (bind_exact (fd := fd) hp hnd (vs := ws) (by lia)) fun kk e1 e2 => ?_
    rw [e1, ← hn] at *
    rcases hd with ⟨h1, _⟩ | ⟨T, its, n, h1, h2, _⟩
    · rw [h1]
      refine wpAny_bind (wpAny_pure ?_)
      rw [e2]; exact wpAny_pure hq
    · rw [h1]
      refine wpAny_bind (wpAny_seqItems (hb _ _ h2) rfl ?_)
      rw [e2]; exact wpAny_pure hq
  · split at hbp
    · rename_i hne hl
      cases hbp
      rcases hd with ⟨h1, h2⟩ | ⟨T, its, n, h1, h2, h3⟩
      · rw [h2] at hl; exact absurd (by simpa using hl) hne
      · have dl := h3.length
        refine ⟨ws ++ its.toList, fun M A E Q hq => ?_, by rw [List.map_snd_zip (by rw [List.length_append, List.length_map]; lia)]; exact VRels.app R (DRels.lift k h3), List.map_fst_zip (by rw [List.length_append, List.length_map]; lia)⟩
        refine E1A2 (bind_dflt (fd := fd) hp hnd (vs := ws) (its := its) rfl (by lia)) fun kk e1 e2 => ?_
        rw [e1, h1]
        refine wpAny_bind (wpAny_seqItems (hb _ _ h2) rfl ?_)
        rw [e2, hn]; exact wpAny_pure hq
    · cases hbp
end Mine
end
section
namespace Mine
open PySem PySem.Calls PyProof.Rows PySem.W
section
variable {X : Wd} {cG : Addr} {T : Tab} {K : Frag} {fs : List Env} {A : Around} {s s0 s1 s' : Shared} {ρ ρ' : Rho} {env : Env} {ks : Ks} {loc : Loc} {H H' : Hp} {n m : Nat} {own : Addr → Prop}
theorem Inv.pop (I : Inv X (env :: fs) ρ H s) : Inv X fs ρ H s := ⟨I.rel, I.base, fun e he => I.stk e (List.mem_cons_of_mem _ he), fun e he => I.off e (List.mem_cons_of_mem _ he), I.sz⟩
theorem Step.pop {W : Addr → Prop} (S : Step (env :: fs) W s s') (h : ∀ L, env.frame = some L → s.heap.objs.size ≤ L) : Step fs W s s' :=
  ⟨S.gens, S.os, S.size, fun a o e n => by
    refine E1A2 (S.keep a o e n) fun sl g q => ?_
    refine ⟨sl, g, q.imp (fun z => z) fun z => ?_⟩
    rw [List.map_cons] at z
    rcases List.mem_cons.mp z with z | z
    · exact absurd (Heap.lt_size e) (Nat.not_lt.mpr (h a z.symm))
    · exact z, S.flat⟩
theorem AOK.deeper (hA : AOK (n + 1) A fs) (env : Env) : AOK n (A.deeper env) (env :: fs) :=
  ⟨hA.handled, hA.guards, Around.frames_deeper hA.frames, by have := hA.depth; show A.depth + 1 + 2 * n + 2 ≤ 900; lia, by have := hA.units; show A.units + 3 + 16 * n + 60 ≤ 9000; lia⟩
set_option backward.match.sparseCases true in
noncomputable def retR (Q : Value → Shared → Prop) (E : Value → Shared → Prop) (r : Result) (s' : Shared) : Prop := match r with
  | .ok (.ret v) => Q v s'
  | .ok _ => False
  | .error e => E e s'
set_option backward.match.sparseCases true in
noncomputable def JCall (X : Wd) (cG : Addr) (fs : List Env) (A : Around) (f : Value) (ws : List Value) (ρ : Rho) (r : R V) (s : Shared) : Prop := match r with
  | .bad => True
  | .ok b H' => codeAny X.M A (.call f ⟨ws, []⟩) (retR (JOk X fs noOwn ρ s (VRel X) b H') (fun _ _ => False)) s
  | .exc m sp H' => codeAny X.M A (.call f ⟨ws, []⟩) (retR (fun _ _ => False) (JEx X cG fs noOwn ρ s m sp H')) s
set_option backward.match.sparseCases true in
theorem JCall.je {f : Value} {ws : List Value} {r : R V} (h : JCall X cG fs A f ws ρ r s) : JE X cG fs A (call f ws []) (VRel X) noOwn ρ r s := by
  induction r with
  | bad => trivial
  | ok b H' => exact wpAny_call h
  | exc m sp H' => exact wpAny_call h
noncomputable def SndK (X : Wd) (cG : Addr) (T : Tab) (n : Nat) : Prop := ∀ (fs : List Env) (A : Around) (ρ : Rho) (H : Hp) (s : Shared) (g : Nat) (vs : List V) (ws : List Value), AOK n A fs → Inv X fs ρ H s → VRels X s.heap ρ vs ws →
  JCall X cG fs A (X.gval g) ws ρ (callF T n g vs H) s
theorem SndK.c (h : SndK X cG T n) : SndC X cG T n := fun fs A ρ H s g vs ws hA I R => (h fs A ρ H s g vs ws hA I R).je
theorem leave_ret {n : Nat} {v : V} {loc : Loc} {H : Hp} {m : Str} {sp : D} {H2 : Hp} (h : leaveF n (.ok (.ret v, loc) H) = .exc m sp H2) : False := by
  induction v with
  | d x => cases h
  | loc i =>
    have h : (if i < n then Mine.R.ok (V.loc i) (H.take n) else match H[i]? with | some o => Mine.R.ok (.loc n) (H.take n ++ [o]) | Option.none => Mine.R.bad) = Mine.R.exc m sp H2 := h
    by_cases hi : i < n
    · rw [if_pos hi] at h; cases h
    · rw [if_neg hi] at h
      cases ho : H[i]? with
      | none => rw [ho] at h; cases h
      | some o => rw [ho] at h; cases h
set_option backward.match.sparseCases true in
theorem call_step (N : NamesOK X) (F : FnsOK X T) (hlim : X.B.NoLimit) (hLv : LeaveSnd X cG) (hX : SndX X cG T n) : SndK X cG T (n + 1) := by
  intro fs A ρ H s g vs ws hA I R
  revert N F hlim hLv hX hA I R; revert X cG T n fs A ρ H s g vs ws
  refine @(eps10 (P := ?P) (dX, dN, dT, dN, dG, dA, dR, dH, dS, dN) rfl ((?m : Pi10 ?P) _ _ _ _ _ _ _ _ _ _))
  intro X cG T n fs A ρ H s g vs ws N F hlim hLv hX hA I R
  show JCall X cG fs A _ _ _ (match T.fn g with
    | some f => match bindP f vs with
      | some loc => leaveF H.length (execL (fun loc s H => exec T n f.ks loc s H) f.body loc H)
      | Option.none => .bad
    | Option.none => .bad) s
  cases hf : T.fn g with
  | none => trivial
  | some f =>
    dsimp only
    cases hbp : bindP f vs with
    | none => trivial
    | some loc =>
      show JCall X cG fs A _ _ _ (leaveF H.length (execL (fun loc s H => exec T n f.ks loc s H) f.body loc H)) s
      refine E4A2 (F g f hf) fun a fd body m hg FO => ?_
      refine E1A3 (FO.bind s ρ vs ws loc I.base (fun d v => DRel.ofBase I) R hbp) fun us hb Ru hloc => ?_
      refine E1A2 (FO.obj) fun o ho hdata => ?_
      rw [hg]
      refine E2A2 (rScope_is FO.read) fun names more hsc hrd => ?_
      · have hul : us.length = f.params.length := by rw [Ru.length, List.length_map, ← hloc, List.length_map]
        have hkeys : (((f.params.map X.nm).zip us).map (·.1)) = f.params.map X.nm := List.map_fst_zip (by rw [List.length_map, hul]; exact Nat.le_refl _)
        have hnd : (((f.params.map X.nm).zip us).map (·.1)).Nodup := by
          rw [hkeys]
          exact List.Pairwise.map _ (fun a b h e => h (N.nmInj _ _ e)) FO.nd
        have hpar : ∀ {k : Nat} {v : V}, loc.lookup k = some v → k ∈ f.params := fun {k v} h => by
          have := List.mem_map_of_mem (f := (·.1)) (lookup_mem h)
          rw [hloc] at this
          exact this
        have hkd : ∀ {p : Nat}, X.f (X.nm p) = some p → names.lookup (X.nm p) = f.ks.lookup p := fun h => rKs_lookup N h names _ hrd
        have hkind : ∀ x ∈ (f.params.map X.nm).zip us, fd.scope.names.lookup x.1 = some .local ∨ (fd.scope.names.lookup x.1 = some .cell ∧ ((cellsFrom (s.heap.objs.size + 1) fd.scope.names []).lookup x.1).isSome = true) := fun x hx => by
          rw [hsc]
          have : x.1 ∈ f.params.map X.nm := by rw [← hkeys]; exact List.mem_map_of_mem hx
          refine E1A2 (List.mem_map.mp this) fun p hp e => ?_
          refine E0A2 (FO.kinds p hp) fun k1 k2 => ?_
          rw [← e]
          show names.lookup _ = _ ∨ (names.lookup _ = _ ∧ _)
          rw [hkd k2]
          rcases isStore_is k1 with q | q
          · exact .inl q
          · refine .inr ⟨q, cellsFrom_mem _ _ _ (.inl ?_)⟩
            exact lookup_mem_str ((hkd k2).trans q)
        have core : ∀ (Q : Value → Shared → Prop) (E : Value → Shared → Prop), (∀ env s1, At X (env :: fs) env f.ks loc ρ H s1 → EnvOK X env f.ks → env.frame = some env.locals → s.heap.objs.size ≤ env.locals → (∀ b, ownOf X env f.ks b → s.heap.objs.size ≤ b) → Step fs Wr0 s s1 →
            wpAny X.M (A.deeper env) (execs body env) (fun fl s' => Q (match fl with | .ret v => v | _ => .none) s') (fun e s' => wpAny X.M (A.deeper env) (leaving env e) (fun _ s'' => E e s'') (fun e' s'' => E e' s'') s') s1) → codeAny X.M A (.call (.ref a) ⟨ws, []⟩) (retR Q E) s := by
          intro Q E h
          refine (codeAny_call_function hA.room (I.base _ _ ho) hdata (by rw [hsc]) (by rw [hsc]) FO.stm (FO.code.keeps I.base) (hb _ _ _ _ ?_))
          rw [FO.clo]
          refine sized (wpAny_newFunctionEnv_cells (by rw [hsc]) hkind fun env he s1 x hsz => ⟨(hlim.keeps I.base).keeps x.toInCall.keep, codeAny_func ?_⟩)
          refine E2A1 (x.toInCall.same) fun h₁ tk hs1 => ?_
          have S01 : Step fs Wr0 s s1 := by
            rw [hs1]
            exact Step.keeps fs Wr0 s (fun b o e => by have := x.toInCall.keep b o e; rw [hs1] at this; exact this) (by rw [hs1] at hsz; exact hsz)
          have hL : env.locals = s.heap.objs.size := by rw [he]; rfl
          have hcells : env.cells = cellsFrom (s.heap.objs.size + 1) names [] := by rw [he, hsc]; rfl
          have hscope : env.scope = fd.scope := by rw [he]; rfl
          have hfr : env.frame = some env.locals := by rw [he]; rfl
          have hkindOf : ∀ y, env.kindOf y = names.lookup y := fun y => by show env.scope.names.lookup y = _; rw [hscope, hsc]
          have I1 := I.step0 S01
          have notW : ∀ {b : Addr}, s.heap.objs.size ≤ b → ¬ Wr ρ b := fun l z => absurd (I.alive z) (Nat.not_lt.mpr l)
          have hnotfree : ∀ k, f.ks.lookup k = some .cell ∨ f.ks.lookup k = some .free → f.ks.lookup k = some .cell := fun k h => h.elim (fun z => z) fun z => absurd z (FO.nofree k)
          have R1 : ∀ {v u}, VRel X s.heap ρ v u → VRel X s1.heap ρ v u := fun z => VRel.step I.stk S01.of0 (Ext.refl _ _) z
          have hV : EnvOK X env f.ks := by
            refine ⟨by rw [hscope, hsc], fun y k hy => ?_, by rw [he]; exact FO.glob, by rw [he]; exact FO.blt, fun y z c hy hz => ?_, by rw [hL]; exact I.sz, fun y c hy => ?_⟩
            · rw [hkindOf, rKs_lookup N hy names _ hrd]
              cases q : f.ks.lookup k with
              | none => rfl
              | some kk =>
                dsimp only [Option.map]
                rw [if_neg (fun e => FO.nofree k (by rw [q, e]))]
            · exact name_of_addr x.apart (mem_of_lookup hy) (mem_of_lookup hz)
            · have := x.above y c (mem_of_lookup hy)
              rw [hL] at this
              exact ⟨Nat.le_trans I.sz (Nat.le_of_lt this), by rw [hL]; exact Nat.ne_of_gt this⟩
          have a1 : At X (env :: fs) env f.ks loc ρ H s1 := by
            refine ⟨⟨I1.rel, I1.base, fun e he' => ?_, fun e he' L hL' => ?_, I1.sz⟩, ⟨_, x.toInCall.ns, fun k v hk hv => ?_⟩, fun k hk => ?_, fun k v hv => ?_, by rw [hL]; exact notW (Nat.le_refl _)⟩
            · rcases List.mem_cons.mp he' with rfl | he'
              · refine E3A3 (x.toInCall.ns) fun o' es ep g' d' _ => ?_
                exact ⟨by rw [hV.kind]; decide, _, o', es, ep, hfr, hV.abv, g', d'⟩
              · exact I1.stk e he'
            · rcases List.mem_cons.mp he' with rfl | he'
              · rw [hfr] at hL'; cases hL'; rw [hL]; exact notW (Nat.le_refl _)
              · exact I1.off e he' L hL'
            · refine E1A2 (zip_lookup N (h := s.heap) (ρ := ρ) f.params loc us hloc Ru hv) fun u z1 z2 => ?_
              refine ⟨u, ?_, R1 z2⟩
              rw [bindL_zip (by rw [hkindOf, hkd (FO.kinds k (hpar hv)).2]; exact hk) _ _ hnd, z1]
            · have hc := hnotfree k hk
              refine E1A2 (rKs_mem' names _ hrd (lookup_mem hc)) fun y hy hm => ?_
              have ey := N.inj y k hy
              subst ey
              refine E1A1 (Option.isSome_iff_exists.mp (cellsFrom_mem names (s.heap.objs.size + 1) [] (.inl hm))) fun c hcc => ?_
              rw [← hcells] at hcc
              refine E1A2 (x.cell _ _ hcc) fun oc g' d' => ?_
              have hab := x.above _ c (mem_of_lookup hcc)
              rw [hL] at hab
              refine ⟨c, oc, _, hcc, g', d', notW (Nat.le_of_lt hab), fun v hv => ?_⟩
              refine E1A2 (zip_lookup N (h := s.heap) (ρ := ρ) f.params loc us hloc Ru hv) fun u z1 z2 => ?_
              refine ⟨u, ?_, R1 z2⟩
              rw [bindC_zip (by rw [hkindOf, hkd hy, hc]; decide) _ _ hnd, z1]
            · refine E0A2 (FO.kinds k (hpar hv)) fun k1 k2 => ?_
              refine ⟨k2, ?_⟩
              exact (isStore_is k1).elim .inl fun q => .inr (.inl q)
          refine h env s1 a1 hV hfr (Nat.le_of_eq hL.symm) (fun b hb' => ?_) S01
          rcases hb' with rfl | ⟨k, hk, hc⟩
          · exact Nat.le_of_eq hL.symm
          · have := x.above _ b (mem_of_lookup hc)
            rw [hL] at this
            exact Nat.le_of_lt this
        have after : ∀ {env : Env} {s1 s2 : Shared}, env.frame = some env.locals → s.heap.objs.size ≤ env.locals → (∀ b, ownOf X env f.ks b → s.heap.objs.size ≤ b) → Step fs Wr0 s s1 → ∀ {W : Addr → Prop}, Step (env :: fs) W s1 s2 → (∀ b, b < s.heap.objs.size → W b → Wr ρ b) → Step fs (fun b => noOwn b ∨ Wr ρ b) s s2 := by
          intro env s1 s2 hfr hL hown S1 W S2 hW
          have S1' : Step (env :: fs) (fun b => noOwn b ∨ Wr ρ b) s s1 := ⟨S1.gens, S1.os, S1.size, fun a o e n => by
            refine E1A2 (S1.keep a o e fun z => z.elim) fun sl g q => ?_
            exact ⟨sl, g, q.imp (fun z => z) fun z => by rw [List.map_cons]; exact List.mem_cons_of_mem _ z⟩, S1.flat⟩
          exact (S1'.trans S2 fun b l w => .inr (hW b l w)).pop fun L e => by rw [hfr] at e; cases e; exact hL
        rw [FO.erase]
        cases hr : execL (fun loc s H => exec T n f.ks loc s H) (body.map (erS X.f f.ks m)) loc H with
        | bad => trivial
        | exc msg sp H' =>
          refine core _ _ fun env s1 a1 hV hfr hL hown S1 => ?_
          have z := execs_snd (m := m) hX (hA.deeper env) hV hfr rfl body a1
          rw [hr] at z
          refine wpAny_mono z (fun _ _ x => x) fun e s2 ⟨ρ2, x2, I2, R2, S2⟩ => ?_
          have hn0 : X.B.objs.size ≤ s1.heap.objs.size := a1.inv.sz
          refine wpAny_mono (hLv (env :: fs) (A.deeper env) env ρ2 H' s2 e msg sp s1.heap.objs.size n (hA.deeper env) rfl hfr hV.glob hn0 (fun e he L hL => by obtain ⟨_, L', o, es, k, f', _, g', _⟩ := a1.inv.stk e he; rw [f'] at hL; cases hL; exact Heap.lt_size g') I2 R2) (fun _ s3 ⟨I3, R3, S3⟩ => ?_) fun _ _ x => x.elim
          have ht : ρ2.take H.length = ρ := by rw [← I.rel.len]; exact x2.take
          have I4 := I3.pop.trunc H.length
          rw [ht] at I4
          obtain ⟨x, dx, vs', sl, es, k, e1, l1, l2, q1, q2, q3, q4, q5, q6, q7, q8⟩ := R3
          have S23 : Step (env :: fs) (fun b => (ownOf X env f.ks b ∨ Wr ρ b) ∨ s1.heap.objs.size ≤ b) s1 s3 := (S2.mono fun _ z => .inl z).trans S3 fun b l w => .inr w
          refine ⟨ρ, Ext.refl _ _, I4, ⟨x, dx, vs', sl, es, k, e1, Nat.le_trans S1.size l1, Nat.le_trans S1.size l2, fun z => q1 ((Ext.old (n := s1.heap.objs.size) x2 (absurd (I.alive z) (Nat.not_lt.mpr (Nat.le_trans S1.size l1)))).mpr z), fun z => absurd (I.alive z) (Nat.not_lt.mpr (Nat.le_trans S1.size l2)), q3, q4, q5, ?_, q7, ?_⟩, after hfr hL hown S1 S23 fun b l w => ?_⟩
          · have := FRels.take (k := H.length) q6
            rw [ht] at this
            exact this
          · rcases q8 with q8 | ⟨T', oT, ts, t1, t2, t3, t4, t5, t6, t7⟩
            · exact .inl q8
            · exact .inr ⟨T', oT, ts, t1, Nat.le_trans S1.size t2, t3, fun z => absurd (I.alive z) (Nat.not_lt.mpr (Nat.le_trans S1.size t2)), t5, t6, t7⟩
          · rcases w with (w | w) | w
            · exact absurd l (Nat.not_lt.mpr (hown b w))
            · exact w
            · exact absurd (Nat.lt_of_lt_of_le l S1.size) (Nat.not_lt.mpr w)
        | ok x H' =>
          obtain ⟨fl, loc'⟩ := x
          have fin : ∀ {w : V} {H2 : Hp}, (∀ (s2 : Shared) (ρ2 : Rho) (fv : Flow) (fs' : List Env), Ext ρ s.heap.objs.size ρ2 → Inv X fs ρ2 H' s2 → FlOf X s2.heap ρ2 fl fv → ∃ ρ3, Ext ρ s.heap.objs.size ρ3 ∧ Inv X fs ρ3 H2 s2 ∧ VRel X s2.heap ρ3 w (match fv with | .ret v => v | _ => .none)) →
              JCall X cG fs A (.ref a) ws ρ (.ok w H2) s := by
            intro w H2 hfin
            refine core _ _ fun env s1 a1 hV hfr hL hown S1 => ?_
            have z := execs_snd (m := m) hX (hA.deeper env) hV hfr rfl body a1
            rw [hr] at z
            refine wpAny_mono z (fun fv s2 ⟨ρ2, x2, I2, R2, S2⟩ => ?_) fun _ _ x => x.elim
            refine E1A3 (hfin s2 ρ2 fv fs (x2.low S1.size) I2.pop R2.2) fun ρ3 x3 I3 R3 => ?_
            refine ⟨ρ3, x3, I3, R3, after hfr hL hown S1 S2 fun b l w => ?_⟩
            rcases w with w | w
            · exact absurd l (Nat.not_lt.mpr (hown b w))
            · exact w
          induction fl with
          | next =>
            refine fin fun s2 ρ2 fv fs' x2 I2 z => ?_
            cases z
            have ht : ρ2.take H.length = ρ := by rw [← I.rel.len]; exact x2.take
            have I4 := I2.trunc H.length
            rw [ht] at I4
            exact ⟨ρ, Ext.refl _ _, I4, rfl⟩
          | brk => trivial
          | cont => trivial
          | ret v =>
            cases hl : leaveF H.length (.ok (.ret v, loc') H') with
            | bad => trivial
            | exc msg sp H2 => exact (leave_ret hl).elim
            | ok rv H2 =>
              refine fin fun s2 ρ2 fv fs' x2 I2 z => ?_
              refine E1A2 (z) fun w hz1 z => ?_; subst hz1; try clear z
              exact leave_ok I2 x2 I.rel.len z hl
end
end Mine
end
section
namespace Mine
open PySem PySem.Calls PyProof.Rows PySem.W
section
variable {X : Wd} {cG : Addr} {T : Tab} {K : Frag} {fs : List Env} {A : Around} {s s0 s1 s' : Shared} {ρ ρ' : Rho} {env : Env} {ks : Ks} {loc : Loc} {H H' : Hp} {n m : Nat} {own : Addr → Prop}
theorem AOK.make {C : Addr} {ws : List Value} (hA : AOK (n + 1) A fs) : AOK n (A.under (.builtin "type.__call__" ⟨.ref C :: ws, []⟩)) fs := by
  refine ⟨hA.handled, ?_, ?_, ?_, ?_⟩
  · show pushGuards (Code.guards (.builtin "type.__call__" ⟨.ref C :: ws, []⟩)) A.guards = _
    rw [show Code.guards (.builtin "type.__call__" ⟨.ref C :: ws, []⟩) = [] from rfl]; exact hA.guards
  · show pushEnvs (Code.envs (.builtin "type.__call__" ⟨.ref C :: ws, []⟩)) A.frames = _
    rw [show Code.envs (.builtin "type.__call__" ⟨.ref C :: ws, []⟩) = [] from rfl]; exact hA.frames
  · have := hA.depth
    show A.depth + Code.weight (.builtin "type.__call__" ⟨.ref C :: ws, []⟩) + 2 * n + 2 ≤ 900
    rw [show Code.weight (.builtin "type.__call__" ⟨.ref C :: ws, []⟩) = 1 from rfl]; lia
  · have := hA.units
    show A.units + Code.cUnits (.builtin "type.__call__" ⟨.ref C :: ws, []⟩) + 16 * n + 60 ≤ 9000
    rw [show Code.cUnits (.builtin "type.__call__" ⟨.ref C :: ws, []⟩) = 1 from rfl]; lia
theorem apply_step (Fc : Facts X cG K T) (hR : reprSnd X cG) (hK : SndK X cG T n) : SndA X cG T (n + 1) := by
  intro fs A ρ H s fv fw vs ws hA I Rf R
  revert Fc hR hK hA I Rf R; revert X cG T K n fs A ρ H s fv fw vs ws
  refine @(eps13 (P := ?P) (dX, dN, dT, df, dN, dG, dA, dR, dH, dS, dv, dV, (default : List Mine.V)) rfl ((?m : Pi13 ?P) _ _ _ _ _ _ _ _ _ _ _ _ _))
  intro X cG T K n fs A ρ H s fv fw vs ws Fc hR hK hA I Rf R
  have hA' := hA.le (Nat.le_succ n)
  induction fv with
  | loc => trivial
  | d x =>
   cases x with
   | gv g =>
    show JE X cG fs A _ _ _ _ (if g = 9 then Mine.R.opt (T.meth 15) fun f => (callF T n f (.loc H.length :: vs) (H ++ [.inst []])).only.bind (newO H.length) else if g < 9 then bltn g vs H else callF T n g vs H) s
    by_cases h9 : g = 9
    · rw [if_pos h9]
      subst h9
      rw [VRel.gv Rf, Fc.C.g9]
      cases hf : T.meth 15 with
      | none => trivial
      | some f =>
        show JE X cG fs A _ _ _ _ ((callF T n f (.loc H.length :: vs) (H ++ [.inst []])).only.bind (newO H.length)) s
        cases hr : callF T n f (.loc H.length :: vs) (H ++ [.inst []]) with
        | bad => trivial
        | exc => trivial
        | ok v H' =>
          induction v with
          | loc => trivial
          | d y =>
            cases y with
            | none =>
               refine E1A3 (Fc.C.meth 15 f hf) fun fI e1 e2 e3 => ?_
               rw [Fc.Y.n15] at e2
               have KI := I.frag Fc.C
               refine JE.ok (wpAny_call ?_)
               have k : ∀ b o, s.heap.get? b = some o → ((s.heap.push emptyDict).push (instObj X.cW s.heap.objs.size)).get? b = some o := fun b o e => Heap.get?_push_of_some _ (Heap.get?_push_of_some _ e)
               have hx : ((s.heap.push emptyDict).push (instObj X.cW s.heap.objs.size)).get? (s.heap.objs.size + 1) = some (insO X.cW s.heap.objs.size) := by
                 have := Heap.get?_push_size (s.heap.push emptyDict) (o := instObj X.cW s.heap.objs.size) rfl
                 rw [Heap.size_push] at this
                 exact this
               have hd : ((s.heap.push emptyDict).push (instObj X.cW s.heap.objs.size)).get? s.heap.objs.size = some (dicO [] 0) := Heap.get?_push_of_some _ (Heap.get?_push_size _ rfl)
               have hz : s.heap.objs.size ≤ ((s.heap.push emptyDict).push (instObj X.cW s.heap.objs.size)).objs.size := by rw [Heap.size_push, Heap.size_push]; lia
               refine E0A2 (I.new (o := .inst []) (h := (s.heap.push emptyDict).push (instObj X.cW s.heap.objs.size)) (k := s.toks) (p := (s.heap.objs.size + 1, s.heap.objs.size)) ⟨Nat.le_succ _, Nat.le_refl _⟩ k hz ⟨hx, [], 0, hd, rfl⟩) fun E1 I1 => ?_
               have S1 := Step.keeps fs Wr0 s (k := s.toks) k hz
               obtain ⟨hh, g, d, t, os⟩ := s
               refine make_core (makes_of KI Fc.C.mkC) (looks_findIn KI e2) (fun self => bind_fn KI self (beq_iff_eq.mp e3)) (.inl rfl) ?_
               have z := hK fs (A.under (.builtin "type.__call__" ⟨.ref X.cW :: ws, []⟩)) _ _ _ f (V.loc H.length :: vs) (.ref (hh.objs.size + 1) :: ws) hA.make I1
                 ⟨_, _, rfl, ⟨_, by rw [List.getElem?_append_right (by rw [I.rel.len]; exact Nat.le_refl _), I.rel.len, Nat.sub_self]; rfl, rfl⟩, VRels.step I.stk S1.of0 E1 R⟩
               rw [hr, e1] at z
               refine codeAny_mono z fun r s' q => ?_
               rcases r with e | (_ | _ | _ | u)
               · exact q.elim
               · exact q.elim
               · exact q.elim
               · exact q.elim
               · obtain ⟨ρ2, x2, I2, R2, S2⟩ := q
                 refine ⟨R2, ρ2, E1.trans x2 S1.size, I2, ⟨_, x2.get (by rw [List.getElem?_append_right (by rw [I.rel.len]; exact Nat.le_refl _), I.rel.len, Nat.sub_self]; rfl), rfl⟩, (S1.mono fun _ z => z.elim).trans S2 fun b l w => w.imp (fun z => z) fun w => (E1.old l).mp w⟩
            | _ => trivial
    · rw [if_neg h9, VRel.gv Rf]
      by_cases h : g < 9
      · rw [if_pos h]; exact blt_snd Fc.V hR hA' I g R
      · rw [if_neg h]; exact (hK fs A ρ H s g vs ws hA' I R).je
   | _ => trivial
end
end Mine
end
section
namespace Mine
open PySem PySem.Calls PyProof.Rows PySem.W
section
variable {X : Wd} {cG : Addr} {T : Tab} {K : Frag} {fs : List Env} {A : Around} {s s0 s1 s' : Shared} {ρ ρ' : Rho} {env : Env} {ks : Ks} {loc : Loc} {H H' : Hp} {n m : Nat} {own : Addr → Prop}
theorem fields_upd (I : Inv X fs ρ H s) {a : Addr} {o : Obj} {vs : Array Value} (f : Array Value → Array Value) (g : s.heap.get? a = some o) (d : o.data = .fields vs) (hc : o.cls ≠ .type "range") (hw : ¬ Wr ρ a) (hB : X.B.objs.size ≤ a) :
    Inv X fs ρ H { s with heap := s.heap.update a (Obj.mapFields f) } ∧ (∀ b o, s.heap.get? b = some o → ¬ Wr ρ b → Solid o → (s.heap.update a (Obj.mapFields f)).get? b = some o ∧ ¬ Wr ρ b) ∧
      Step fs (· = a) s { s with heap := s.heap.update a (Obj.mapFields f) } ∧ Heap.SameBut a s.heap (s.heap.update a (Obj.mapFields f)) ∧
      (s.heap.update a (Obj.mapFields f)).get? a = some (o.mapFields f) := by
  revert I g d hc hw hB; revert X fs s ρ H a o vs f
  refine @(eps7 (P := ?P) (dX, dG, dS, dR, dH, dN, (default : PySem.Obj)) rfl ((?m : Pi7 ?P) _ _ _ _ _ _ _))
  intro X fs s ρ H a o vs f I g d hc hw hB
  have hs : Heap.SameBut a s.heap (s.heap.update a (Obj.mapFields f)) := Heap.SameBut.update ..
  have S : Step fs (· = a) s { s with heap := s.heap.update a (Obj.mapFields f), toks := s.toks } := Step.one _ rfl hs fun o' es n e q => by rw [g] at e; cases e; rw [d] at q; cases q
  obtain ⟨I', kk⟩ := I.owned S (by
    rintro b rfl
    refine ⟨hB, hw, fun o' g' so => ?_⟩
    rw [g] at g'; cases g'
    rcases so with ⟨_, _, rfl⟩ | ⟨_, _, rfl⟩ | ⟨q, _⟩
    · cases d
    · cases d
    · exact hc q)
  exact ⟨I', kk, S, hs, Heap.get?_update_self _ g (Obj.isFreed_of_fields (Obj.data_mapFields d f))⟩
theorem funFrames (I : Inv X fs ρ H s) : s.heap.FunFrames X.B fs := by
  have : ∀ l : List Env, (∀ e ∈ l, e ∈ fs) → s.heap.FunFrames X.B l := by
    intro l
    induction l with
    | nil => intro _; trivial
    | cons e l ih =>
      intro h
      obtain ⟨k, L, o, es, n, f, b, g, d⟩ := I.stk e (h e List.mem_cons_self)
      refine ⟨k, ⟨L, o, f, ?_, g, fun vs q => by rw [d] at q; cases q⟩, ih fun e' he' => h e' (List.mem_cons_of_mem _ he')⟩
      cases q : X.B.get? L with
      | none => rfl
      | some o => exact absurd (Heap.lt_size q) (Nat.not_lt.mpr b)
  exact this fs fun _ h => h
theorem slots_step {h' : Heap} (I : Inv X fs ρ H s) (x : Heap.SlotsOnly (fs.filterMap (·.frame)) s.heap h') : Step fs Wr0 s { s with heap := h' } := by
  refine ⟨rfl, rfl, Nat.le_of_eq x.1.symm, fun a o e _ => ?_, fun a o es n e d => ?_⟩
  · by_cases q : a ∈ fs.filterMap (·.frame)
    · refine E1A1 (x.2.2 a o e) fun sl g => ?_
      refine ⟨sl, g, .inr ?_⟩
      refine E1A2 (List.mem_filterMap.mp q) fun e' he hf => ?_
      exact List.mem_map.mpr ⟨e', he, hf⟩
    · exact ⟨o.slots, (x.2.1 a q).trans e, .inl rfl⟩
  · refine E1A1 (x.2.2 a o e) fun sl g => ?_
    exact ⟨_, es, n, g, d⟩
theorem ExcRel.move {n0 : Nat} {e : Value} {msg : Str} {sp : D} {h h' : Heap} (R : ExcRel X cG n0 h ρ e msg sp) (k : ∀ a o, n0 ≤ a → h.get? a = some o → ((∃ vs, o.data = .fields vs) ∨ ∃ es n, o = dicO es n) → h'.get? a = some o)
    (kk : ∀ a o, h.get? a = some o → ¬ Wr ρ a → Solid o → h'.get? a = some o ∧ ¬ Wr ρ a) : ExcRel X cG n0 h' ρ e msg sp := by
  obtain ⟨x, dx, vs, sl, es, c, e1, l1, l2, w1, w2, ne, g1, g2, F, sz, tb⟩ := R
  refine ⟨x, dx, vs, sl, es, c, e1, l1, l2, w1, w2, ne, k _ _ l1 g1 (.inl ⟨_, rfl⟩), k _ _ l2 g2 (.inr ⟨_, _, rfl⟩), F.mono kk, sz, ?_⟩
  rcases tb with q | ⟨T', oT, ts, t1, t2, t3, t4, t5, t6, t7, t8⟩
  · exact .inl q
  · exact .inr ⟨T', oT, ts, t1, t2, t3, t4, k _ _ t2 t5 (.inl ⟨_, t6⟩), t6, t7, t8⟩
theorem ExcRel.go0 {n0 : Nat} {e : Value} {msg : Str} {sp : D} (R : ExcRel X cG n0 s.heap ρ e msg sp) (I : Inv X fs ρ H s) (S : Step fs Wr0 s s') (hL : ∀ e ∈ fs, ∀ L, e.frame = some L → L < n0) : ExcRel X cG n0 s'.heap ρ e msg sp := by
  refine R.move (fun a o l g _ => ?_) fun a o g n so => ⟨S.get I.stk g (fun z => z) so.flat.1, n⟩
  refine E1A2 (S.keep a o g fun z => z) fun sl g' q => ?_
  rcases q with rfl | q
  · exact g'
  · refine E1A2 (List.mem_map.mp q) fun e' he hf => ?_
    exact absurd (hL e' he a hf) (Nat.not_lt.mpr l)
noncomputable def Tracked (h : Heap) (e : Value) : Prop := ∃ x o vs, e = .ref x ∧ h.get? x = some o ∧ o.data = .fields vs ∧ ∃ t, vs[1]? = some (.ref t)
theorem entry_any {outer : List Env} (hfs : fs = env :: outer) (hA : AOK n A fs) (hfr : env.frame = some env.locals) {n0 : Nat} (hB : X.B.objs.size ≤ n0) (hL : ∀ e ∈ fs, ∀ L, e.frame = some L → L < n0) (I : Inv X fs ρ H s) {x : Addr} {msg : Str} {sp : D} {head : Value} {b : Bool} (R : ExcRel X cG n0 s.heap ρ (.ref x) msg sp)
    {E : Value → Shared → Prop} {Q : Unit → Shared → Prop} (hQ : ∀ s', Inv X fs ρ H s' → ExcRel X cG n0 s'.heap ρ (.ref x) msg sp → Tracked s'.heap (.ref x) → Step fs (fun a => n0 ≤ a) s s' → Q () s') :
    wpAny X.M A (do let a ← frameOf env; let pl ← entryPlaceOf env.locals b; let t ← EntryCells.newEntry head a .none (rawInt env.locals) .none pl; PySem.setField (.ref x) 1 t) Q E s := by
  revert hfs hA hfr hB hL I R hQ; revert X cG fs A s ρ env H n outer n0 x msg sp head b E Q
  refine @(eps16 (P := ?P) (dX, dN, dG, dA, dS, dR, dE, dH, dN, dG, dN, dN, ds, dd, dV, dB) rfl ((?m : Pi16 ?P) _ _ _ _ _ _ _ _ _ _ _ _ _ _ _ _))
  intro X cG fs A s ρ env H n outer n0 x msg sp head b E Q hfs hA hfr hB hL I R hQ
  have hsl := funFrames I
  subst hfs
  refine wpAny_bind (wpAny_frameOf_fun hA.frames hsl hfr fun h₁ hs₁ => ?_)
  have S1 := slots_step I hs₁
  have I1 := I.step0 S1
  have R1 := R.go0 I S1 hL
  refine wpAny_bind (wpAny_entryPlaceOf fun pl hpl => ?_)
  unfold EntryCells.newEntry newFields
  refine wpAny_bind (wpAny_newObj_type ?_ (hpl.sizeOk5 _ _ _ _ _))
  generalize hTo : ({ cls := .type "traceback", dict := none, data := .fields ([head, .ref env.locals, .none, rawInt env.locals, .none] ++ (if pl.isEmpty then List.replicate 6 Value.none else pl)).toArray } : Obj) = oT
  have S2 := Step.push (env :: outer) Wr0 { s with heap := h₁ } oT s.toks
  have I2 := I1.step0 S2
  have R2 := R1.go0 I1 S2 hL
  have hT : (h₁.push oT).get? h₁.objs.size = some oT := Heap.get?_push_size _ (by rw [← hTo]; rfl)
  have hn0T : n0 ≤ h₁.objs.size := by
    obtain ⟨x', dx, vs, sl, es, c, e1, l1, _, _, _, _, g1, _⟩ := R1
    exact Nat.le_trans l1 (Nat.le_of_lt (Heap.lt_size g1))
  have hTw : ¬ Wr ρ h₁.objs.size := I1.fresh
  obtain ⟨x', dx, vs, sl, es, c, e1, l1, l2, w1, w2, ne, g1, g2, F, sz, tb⟩ := R2
  cases e1
  refine E0A5 (fields_upd I2 (·.setIfInBounds 1 (Value.ref h₁.objs.size)) g1 rfl (by simp) w1 (Nat.le_trans hB l1)) fun I3 kk S3 hs3 g3 => ?_
  have hTx : h₁.objs.size ≠ x := by
    obtain ⟨x', _, _, _, _, _, e1, _, _, _, _, _, g1', _⟩ := R1
    cases e1
    exact Nat.ne_of_gt (Heap.lt_size g1')
  refine wpAny_setField g1 rfl (by lia) (hQ _ I3 ⟨x, dx, _, sl, es, c, rfl, l1, l2, w1, w2, ne, g3, (hs3.2 _ (Ne.symm ne)).trans g2, F.mono kk, by simp; lia, .inr ⟨h₁.objs.size, oT, _, ?_, hn0T, hTx, hTw, (hs3.2 _ hTx).trans hT, by rw [← hTo], ?_, by rw [← hTo]⟩⟩ ⟨x, _, _, rfl, g3, rfl, h₁.objs.size, ?_⟩ ?_)
  · have h1 : 1 < vs.size := by lia
    simp [h1]
  · simp only [List.size_toArray, List.length_append, List.length_cons, List.length_nil]; lia
  · have h1 : 1 < vs.size := by lia
    simp [h1]
  · exact ((S1.mono fun _ z => z.elim).trans S2 fun _ _ z => z.elim).trans (W := fun a => n0 ≤ a) S3 fun a _ q => by rw [q]; exact l1
theorem note_any {outer : List Env} (hfs : fs = env :: outer) (hA : AOK n A fs) (hfr : env.frame = some env.locals) {n0 : Nat} (hB : X.B.objs.size ≤ n0) (hL : ∀ e ∈ fs, ∀ L, e.frame = some L → L < n0) (I : Inv X fs ρ H s) {x : Addr} {msg : Str} {sp : D} (R : ExcRel X cG n0 s.heap ρ (.ref x) msg sp)
    {E : Value → Shared → Prop} {Q : Unit → Shared → Prop} (hQ : ∀ s', Inv X fs ρ H s' → ExcRel X cG n0 s'.heap ρ (.ref x) msg sp → Tracked s'.heap (.ref x) → Step fs (fun a => n0 ≤ a) s s' → Q () s') :
    wpAny X.M A (noteFrame (.ref x) env) Q E s := by
  revert hfs hA hfr hB hL I R hQ; revert X cG fs A s ρ env H n outer n0 x msg sp E Q
  refine @(eps16 (P := ?P) (dX, dN, dG, dA, dS, dR, dE, dH, dN, dG, dN, dN, ds, dd, dq, (default : Unit → PySem.Shared → Prop)) rfl ((?m : Pi16 ?P) _ _ _ _ _ _ _ _ _ _ _ _ _ _ _ _))
  intro X cG fs A s ρ env H n outer n0 x msg sp E Q hfs hA hfr hB hL I R hQ
  have R' := R
  obtain ⟨x', dx, vs, sl, es, c, e1, l1, l2, w1, w2, ne, g1, g2, F, sz, tb⟩ := R'
  cases e1
  unfold noteFrame
  simp only [hfr]
  rcases tb with q | ⟨T', oT, ts, t1, t2, t3, t4, t5, t6, t7, t8⟩
  · refine wpAny_bind (wpAny_field g1 rfl q ?_)
    rw [if_neg (by decide)]
    exact entry_any hfs hA hfr hB hL I R hQ
  · refine wpAny_bind (wpAny_field g1 rfl t1 ?_)
    rw [if_pos (show (Value.ref T' != Value.none) = true from by simp)]
    refine wpAny_bind (wpAny_field t5 t6 (Array.getElem?_eq_getElem t7) ?_)
    split
    · exact wpAny_pure (hQ s I R ⟨x, _, _, rfl, g1, rfl, T', t1⟩ (Step.refl _ _ _))
    · refine wpAny_bind (wpAny_setField t5 t6 t7 ?_)
      refine E0A5 (fields_upd I (·.setIfInBounds 3 Value.none) t5 t6 (by rw [t8]; simp) t4 (Nat.le_trans hB t2)) fun I2 kk S2 hs2 gT => ?_
      have ndx : dx ≠ T' := fun q => by rw [← q, g2] at t5; cases t5; cases t6
      have R2 : ExcRel X cG n0 (s.heap.update T' (Obj.mapFields (·.setIfInBounds 3 Value.none))) ρ (.ref x) msg sp :=
        ⟨x, dx, vs, sl, es, c, rfl, l1, l2, w1, w2, ne, (hs2.2 _ (Ne.symm t3)).trans g1, (hs2.2 _ ndx).trans g2, F.mono kk, sz, .inr ⟨T', _, _, t1, t2, t3, t4, gT, Obj.data_mapFields t6 _, by simp; lia, (Obj.cls_mapFields _ _).trans t8⟩⟩
      refine entry_any hfs hA hfr hB hL I2 R2 fun s' I' R' tr S' => hQ s' I' R' tr ?_
      exact Step.trans (W := fun a => n0 ≤ a) (S2.mono fun a q => by rw [q]; exact t2) S' fun _ _ z => z
theorem flight_any {n0 : Nat} (hB : X.B.objs.size ≤ n0) (I : Inv X fs ρ H s) {x : Addr} {msg : Str} {sp : D} (R : ExcRel X cG n0 s.heap ρ (.ref x) msg sp) (fr : Option Addr)
    {E : Value → Shared → Prop} {Q : Unit → Shared → Prop} (hQ : ∀ s', Inv X fs ρ H s' → ExcRel X cG n0 s'.heap ρ (.ref x) msg sp → (Tracked s.heap (.ref x) → Tracked s'.heap (.ref x)) → Step fs (fun a => n0 ≤ a) s s' → Q () s') :
    wpAny X.M A (setFlight (.ref x) fr) Q E s := by
  revert hB I R hQ; revert X cG fs A s ρ H n0 x msg sp fr E Q
  refine @(eps13 (P := ?P) (dX, dN, dG, dA, dS, dR, dH, dN, dN, ds, dd, (default : Option PySem.Addr), dq) rfl ((?m : Pi13 ?P) _ _ _ _ _ _ _ _ _ _ _ _ _))
  intro X cG fs A s ρ H n0 x msg sp fr E Q hB I R hQ
  have R' := R
  obtain ⟨x', dx, vs, sl, es, c, e1, l1, l2, w1, w2, ne, g1, g2, F, sz, tb⟩ := R'
  cases e1
  unfold setFlight
  rcases tb with q | ⟨T', oT, ts, t1, t2, t3, t4, t5, t6, t7, t8⟩
  · refine wpAny_bind (wpAny_field g1 rfl q ?_)
    rw [if_neg (by decide)]
    exact wpAny_pure (hQ s I R (fun z => z) (Step.refl _ _ _))
  · refine wpAny_bind (wpAny_field g1 rfl t1 ?_)
    rw [if_pos (show (Value.ref T' != Value.none) = true from by simp)]
    refine E0A5 (fields_upd I (·.setIfInBounds 3 (fr.elim .none fun f => rawInt f)) t5 t6 (by rw [t8]; simp) t4 (Nat.le_trans hB t2)) fun I2 kk S2 hs2 gT => ?_
    have ndx : dx ≠ T' := fun q => by rw [← q, g2] at t5; cases t5; cases t6
    refine wpAny_setField t5 t6 t7 (hQ _ I2 ⟨x, dx, vs, sl, es, c, rfl, l1, l2, w1, w2, ne, (hs2.2 _ (Ne.symm t3)).trans g1, (hs2.2 _ ndx).trans g2, F.mono kk, sz, .inr ⟨T', _, _, t1, t2, t3, t4, gT, Obj.data_mapFields t6 _, by simp; lia, (Obj.cls_mapFields _ _).trans t8⟩⟩
      (fun _ => ⟨x, _, _, rfl, (hs2.2 _ (Ne.symm t3)).trans g1, rfl, T', t1⟩) (S2.mono fun a q => by rw [q]; exact t2))
theorem leave_snd : LeaveSnd X cG := by
  intro fs A env ρ H s e msg sp n0 n hA hh hfr hg hB hL I R
  obtain ⟨outer, rfl⟩ : ∃ outer, fs = env :: outer := by
    cases fs with
    | nil => cases hh
    | cons a l => cases hh; exact ⟨l, rfl⟩
  obtain ⟨x, _, _, _, _, _, rfl, _⟩ := id R
  unfold leaving
  refine wpAny_bind (note_any rfl hA hfr hB hL I R fun s1 I1 R1 _ S1 => ?_)
  exact flight_any hB I1 R1 none fun s2 I2 R2 _ S2 => ⟨I2, R2, S1.trans S2 fun _ _ z => z⟩
end
end Mine
end
section
namespace Mine
open PySem PySem.Calls PyProof.Rows PySem.W
section
variable {prog : Program} {w : World} {A : Around} {E : Value → Shared → Prop} {s : Shared} {K : Frag} {x C : Addr} {ox : Obj} {od : Option Obj} {name : Str} {expr : Bool} {Q : Value → Shared → Prop}
theorem canon_bga : Manifest.canonical "BaseException.__getattribute__" = "object.__getattribute__" := by decide +kernel
theorem slot_bga : Slot "Exception" "__getattribute__" "BaseException.__getattribute__" :=
  .of (owner := "BaseException") (n := "__getattribute__") (by rw [typeLookup_type, builtinLookup_eq_fast]; kernel_rfl) (by decide +kernel) (by decide +kernel) (by decide +kernel)
    (by first | exact .inl (by decide +kernel) | exact .inr (by decide +kernel)) (by rw [isSubtype_type]; kernel_rfl)
theorem get_valueE {v : Value} (X : K.In s.heap) (I : InstAt s.heap x ox C od) (hga : findIn K (.ref C) "__getattribute__" = some (some (.builtin "BaseException.__getattribute__")))
    (hgk : findIn K (.ref C) "__getattr__" = some none) (hsub : subIn K (.ref C) (.type "BaseException") = some true)
    (hf : findObj K C od name = some (.value v)) (hh : handedIn v = true) (h : Q v { s with toks := s.toks + 1 }) : wpAny (model prog w) A (getAttr (.ref x) name expr) Q E s := by
  revert X I hga hgk hsub hf hh h; revert prog w A E s K x C ox od name expr Q v
  refine @(eps13 (P := ?P) ((default : PySem.Program), dW, dA, dq, dS, df, dN, dN, (default : PySem.Obj), (default : Option PySem.Obj), ds, dB, dq) rfl ((?m : Pi13 ?P) _ _ _ _ _ _ _ _ _ _ _ _ _))
  intro prog w A E s K x C ox od name expr Q v X I hga hgk hsub hf hh h
  have ht := I.type (M := model prog w)
  have hb : Looks (model prog w) s.heap (hookBefore (.ref C)) none := looks_hook X (by rw [if_pos (show onTheHeap (.ref C) = true from rfl)]; exact hgk)
  refine wpAny_bind (wpAny_mkText (wpAny_holding (wpAny_bind (ht _ _ _ _ (fun _ _ e => e) (wpAny_bind (looks_findIn X hga _ _ _ _ (fun _ _ e => e) ?_))))))
  dsimp only
  rw [show (onTheHeap (.ref C) && Value.builtin "BaseException.__getattribute__" == Value.builtin "object.__getattribute__") = false from by rw [show (Value.builtin "BaseException.__getattribute__" == Value.builtin "object.__getattribute__") = false from by decide +kernel, Bool.and_false], if_neg (by decide)]
  refine wpAny_bind (hb _ _ _ _ (fun _ _ e => e) (wpAny_bind (wpAny_attempt (wpAny_holding ?_))))
  unfold callGetattribute
  rw [show (expr && onTheHeap (Value.builtin "BaseException.__getattribute__")) = false from Bool.and_false _, if_neg (by decide)]
  unfold boundAndCalled
  rw [slot_bga.bind]
  refine wpAny_bind (wpAny_pure ?_)
  show wpAny _ _ (call (.builtin "BaseException.__getattribute__") [.ref x, .str name s.toks]) _ _ _
  refine wpAny_call ?_
  refine codeAny_call_builtin slot_bga.plain F.entry_bexc_ga ?_
  refine @check_slot (model prog w) _ _ { s with toks := s.toks + 1 } "BaseException.__getattribute__" "BaseException" "__getattribute__" (.ref x) [.str name s.toks] [] _ (by decide +kernel) (by decide +kernel) (ht.andThen (looks_subIn X hsub)) (F.args_bexc_ga (.ref x) (.str name s.toks)) ?_
  unfold Builtin.«object.__getattribute__»
  have L2 := looks_find (M := model prog w) X I hf
  refine wpAny_bind (wpAny_pure (wpAny_bind (wpAny_pure (wpAny_bind (ht.at (wpAny_bind (L2.at ?_)))))))
  refine wpAny_pure ?_
  show wpAny _ _ (handedOut v) _ _ _
  rw [handedOut_of hh]; exact wpAny_pure h
end
structure GfOK (X : Wd) (cG : Addr) (K : Frag) : Prop where
  glob : ∃ mg, X.B.Ns mainGlobals mg ∧ mg (X.nm 10) = some (.ref cG)
  ga : findIn K (.ref cG) "__getattribute__" = some (some (.builtin "BaseException.__getattribute__"))
  gk : findIn K (.ref cG) "__getattr__" = some none
  sb : subIn K (.ref cG) (.type "BaseException") = some true
  hd : hasDictIn K cG = true
  a16 : findIn K (.ref cG) (X.nm 16) = some none
  a17 : findIn K (.ref cG) (X.nm 17) = some none
  hit : exmOne K (.ref cG) (.ref cG) = some true
section
variable {X : Wd} {cG : Addr} {T : Tab} {K : Frag} {fs : List Env} {A : Around} {s s0 s1 s' : Shared} {ρ ρ' : Rho} {env : Env} {ks : Ks} {loc : Loc} {H H' : Hp} {n m : Nat} {own : Addr → Prop}
theorem At.turn (N : NamesOK X) (hV : EnvOK X env ks) (a : At X fs env ks loc ρ H s) {k : Nat} (hk : loc.lookup k = none) {mm m' : Str → Option Value} (hval : ∀ n v, ks.lookup n = some .local → loc.lookup n = some v → ∃ val, mm (X.nm n) = some val ∧ VRel X s.heap ρ v val)
    (hm : ∀ y, y ≠ X.nm k → m' y = mm y) {h' : Heap} {tk : Nat} (hn : h'.Ns env.locals m') (hs : Heap.SameBut env.locals s.heap h') :
    At X fs env ks loc ρ H { s with heap := h', toks := tk } ∧ Step fs (ownOf X env ks) s { s with heap := h', toks := tk } ∧ (∀ b o, s.heap.get? b = some o → ¬ Wr ρ b → Solid o → h'.get? b = some o ∧ ¬ Wr ρ b) := by
  revert N hV a hk hval hm hn hs; revert X fs s ρ env ks loc H k mm m' h' tk
  refine @(eps13 (P := ?P) (dX, dG, dS, dR, dE, dK, dL, dH, dN, (default : PySem.Str → Option PySem.Value), (default : PySem.Str → Option PySem.Value), dh, dN) rfl ((?m : Pi13 ?P) _ _ _ _ _ _ _ _ _ _ _ _ _))
  intro X fs s ρ env ks loc H k mm m' h' tk N hV a hk hval hm hn hs
  have S : Step fs (ownOf X env ks) s { s with heap := h', toks := tk } := Step.one _ (.inl rfl) hs fun o es n e q => by
    refine E3A3 (hn) fun o' es' ep g d _ => ?_; try clear hn
    exact ⟨o', es', ep, g, d⟩
  have S1 : Step fs (· = env.locals) s { s with heap := h', toks := tk } := Step.one _ rfl hs fun o es n e q => by
    refine E3A3 (hn) fun o' es' ep g d _ => ?_; try clear hn
    exact ⟨o', es', ep, g, d⟩
  obtain ⟨I', kk⟩ := a.inv.owned S1 (by
    rintro b rfl
    refine ⟨hV.abv, a.fr.off, fun o ho so => ?_⟩
    refine E1A2 (a.fr.ns) fun mm' hn' _ => ?_
    refine E3A3 (hn') fun o' es ep g d _ => ?_; try clear hn'
    rw [g] at ho; cases ho
    exact so.flat.1 _ _ d)
  have kv : ∀ d u, VRel X s.heap ρ d u → VRel X h' ρ d u := fun d u z => VRel.mono kk z
  refine ⟨⟨I', ⟨m', hn, fun j v hj hv => ?_⟩, fun j hj => ?_, a.fr.dom, a.fr.off⟩, S, kk⟩
  · refine E1A2 (hval j v hj hv) fun val e R => ?_
    refine ⟨val, ?_, kv _ _ R⟩
    rw [hm _ fun q => ?_]
    · exact e
    · have := N.nmInj _ _ q
      subst this
      rw [hk] at hv; cases hv
  · refine E3A5 (a.fr.cel j hj) fun c o cv e1 e2 e3 e4 e5 => ?_
    exact ⟨c, o, cv, e1, (hs.2 c (hV.cabv _ _ e1).2).trans e2, e3, e4, fun v hv => let ⟨val, p, q⟩ := e5 v hv; ⟨val, p, kv _ _ q⟩⟩
theorem try_snd (Fc : Facts X cG K T) (Gf : GfOK X cG K) (hE : SndE X cG T n) (hA : AOK n A fs) (hV : EnvOK X env ks) (hf : env.frame = some env.locals) (hh : fs.head? = some env) (a : At X fs env ks loc ρ H s)
    (e : Expr) (g x y1 y2 z1 z2 : Str) (q0 q1 q2 q3 q4 q5 q6 q7 q8 q9 : Pos) (hg : X.f g = some 10) (hx : X.f x = some 18) (hy1 : X.f y1 = some 18) (hy2 : X.f y2 = some 18) (hz1 : X.f z1 = some 16) (hz2 : X.f z2 = some 17) (hk : ks.lookup 18 = some .local) (hk10 : ks.lookup 10 = some .globalImplicit) :
    JE X cG fs A (PySem.exec (.Try [.Return (some e) q1] [.ExceptHandler (some (.Name g q2)) (some x) [.Return (some (.List [.Attribute (.Name y1 q3) z1 q4, .Attribute (.Name y2 q5) z2 q6] q7)) q8] q9] [] [] q0) env) (FlRel X env ks) (ownOf X env ks) ρ (exec T (n + 1) ks loc (.try_ (erE X.f m e)) H) s := by
  revert Fc Gf hE hA hV hf hh a hg hx hy1 hy2 hz1 hz2 hk hk10; revert X cG T K fs A s ρ env ks loc H n m e g x y1 y2 z1 z2 q0 q1 q2 q3 q4 q5 q6 q7 q8 q9
  refine @(eps31 (P := ?P) (dX, dN, dT, df, dG, dA, dS, dR, dE, dK, dL, dH, dN, dN, de, ds, ds, ds, ds, ds, ds, dp, dp, dp, dp, dp, dp, dp, dp, dp, dp) rfl ((?m : Pi31 ?P) _ _ _ _ _ _ _ _ _ _ _ _ _ _ _ _ _ _ _ _ _ _ _ _ _ _ _ _ _ _ _))
  intro X cG T K fs A s ρ env ks loc H n m e g x y1 y2 z1 z2 q0 q1 q2 q3 q4 q5 q6 q7 q8 q9 Fc Gf hE hA hV hf hh a hg hx hy1 hy2 hz1 hz2 hk hk10
  refine JE.guard fun hno => ?_
  have hno : loc.lookup 18 = none := by simpa using hno
  rw [arm_exec_Try]
  refine JE.stand ?_
  have z := hE fs A env ks loc ρ H s m e hA hV a
  cases hr : evalE T n ks loc (erE X.f m e) H with
  | bad => trivial
  | ok v H1 =>
    rw [hr] at z
    refine JE.ok (wpAny_tryStmt_except (wpAny_execs_cons ?_))
    have z' := ret_snd (r := .ok v H1) a e q1 z
    refine wpAny_mono z' (fun f s1 ⟨ρ1, x1, I1, R1, S1⟩ => ?_) fun _ _ x => x.elim
    obtain ⟨F1, w, rfl, R2⟩ := R1
    exact ⟨ρ1, x1, I1, ⟨F1, w, rfl, R2⟩, S1⟩
  | exc msg sp H1 =>
    rw [hr] at z
    obtain ⟨outer, hfs⟩ : ∃ outer, fs = env :: outer := by
      cases fs with
      | nil => cases hh
      | cons b l => cases hh; exact ⟨l, rfl⟩
    have hL : ∀ e ∈ fs, ∀ L, e.frame = some L → L < s.heap.objs.size := fun e' he L hL => by
      obtain ⟨_, L', o, es, k, f', _, g', _⟩ := a.inv.stk e' he
      rw [f'] at hL; cases hL; exact Heap.lt_size g'
    have hlL : env.locals < s.heap.objs.size := hL env (by rw [hfs]; exact List.mem_cons_self) _ hf
    have ex := Fc.N.inj x 18 hx
    have hkx : env.kindOf x = some .local := by rw [hV.kinds x 18 hx, hk]; rfl
    have hp : (env.scope.kind == .class || (env.scope.kind == .module && env.locals != env.globals)) = false := by rw [hV.kind]; rfl
    have hdbg : (x == ("__debug__" : Str)) = false := by
      refine beq_eq_false_iff_ne.mpr fun q => ?_
      subst q
      have := Fc.N.dbg
      rw [hx] at this; cases this
    have e1y := Fc.N.inj y1 18 hy1
    have e2y := Fc.N.inj y2 18 hy2
    obtain rfl : y1 = x := by rw [ex, e1y]
    obtain rfl : y2 = y1 := by rw [e2y, e1y]
    refine JE.ok ?_
    generalize hQ : JOk X fs (ownOf X env ks) ρ s (FlRel X env ks) (Fl.ret (.d (.list [.str msg, sp])), loc) H1 = Q
    have fin : ∀ {f : Flow} {s' : Shared}, JOk X fs (ownOf X env ks) ρ s (FlRel X env ks) (Fl.ret (.d (.list [.str msg, sp])), loc) H1 f s' → Q f s' := by rw [← hQ]; exact id
    clear hQ hr
    refine wpAny_tryStmt_except (wpAny_execs_cons ?_)
    show wpAny X.M A (standAt q1 >>= fun _ => eval e env >>= fun v => Pure.pure (Flow.ret v)) _ _ s
    refine wpAny_bind (wpAny_standAt (wpAny_bind (wpAny_mono z (fun _ _ x => x.elim) fun ev s1 z => ?_)))
    obtain ⟨ρ1, x1, I1, R1, S1⟩ := z
    obtain ⟨b, _, _, _, _, _, rfl, _⟩ := id R1
    have hB := a.inv.sz
    refine note_any hfs hA hf hB hL I1 R1 fun s2 I2 R2 _ S2 => ?_
    refine flight_any hB I2 R2 none fun s3 I3 R3 _ S3 => ?_
    have low : ∀ {sx : Shared}, Step fs (fun c => s.heap.objs.size ≤ c) s1 sx → Step fs (fun c => noOwn c ∨ Wr ρ c) s sx := fun {sx} S => by
      have q : Step fs (fun c => (noOwn c ∨ Wr ρ c) ∨ s.heap.objs.size ≤ c) s sx := (S1.mono fun _ z => .inl z).trans S fun _ _ w => .inr w
      exact ⟨q.gens, q.os, q.size, fun c o e n => q.keep c o e fun w => w.elim n fun w => absurd (Heap.lt_size e) (Nat.not_lt.mpr w), q.flat⟩
    have S13 := S2.trans S3 fun _ _ z => z
    have a3 := a.next x1 I3 (low S13)
    refine wpAny_handleBy_cons ?_ (by intro q; cases q)
    refine E1A2 (Gf.glob) fun mg hmg hmv => ?_
    have eg := Fc.N.inj g 10 hg
    refine codeAny_handlers_test ?_
    have hdg : (g == ("__debug__" : Str)) = false := by
      refine beq_eq_false_iff_ne.mpr fun q => ?_
      subst q
      have := Fc.N.dbg
      rw [hg] at this; cases this
    refine Name_function_global hV.kind (by rw [hV.kinds g 10 hg, hk10]; rfl) (loadGlobal_global (by rw [hV.glob]; exact hmg.keeps I3.base) (eg ▸ hmv) ?_) hdg
    obtain ⟨b', dx, vs, sl, es, c, e1, l1, l2, w1, w2, ne, g1, g2, F, sz, tb⟩ := id R3
    cases e1
    have KI := I3.frag Fc.C
    have LT : Looks X.M s3.heap (typeOf (.ref b)) (.ref cG) := (Looks.ld g1).andThen .now
    refine (exm_one KI LT Gf.hit).here ?_
    refine codeAny_handlers_suite_as ?_
    refine flight_any hB I3 R3 none fun s4 I4 R4 _ S4 => ?_
    have S14 := S13.trans S4 fun _ _ z => z
    have a4 := a.next x1 I4 (low S14)
    refine E1A2 (a4.fr.ns) fun mm hns hval => ?_
    refine wpAny_storeName_local hkx hns (fun h5 hn5 hs5 => ?_) hp
    refine E0A3 (a4.turn Fc.N hV hno hval (m' := fun y => if y = y2 then some (.ref b) else mm y) (tk := s4.toks + 1) (fun y hy => if_neg (by rw [ex]; exact hy)) hn5 hs5) fun a5 S5 kk5 => ?_
    have R5 : ExcRel X cG s.heap.objs.size h5 ρ1 (.ref b) msg sp := R4.move (fun c o l g _ => (hs5.2 c fun q => by rw [q] at l; exact absurd hlL (Nat.not_lt.mpr l)).trans g) kk5
    obtain ⟨b', dx, vs, sl, es, c, e1, l1, l2, w1, w2, ne, g1, g2, F, sz, tb⟩ := id R5
    cases e1
    have KI5 := a5.inv.frag Fc.C
    refine E1A2 (F.getL_some Fc.N (a := 16) (d := .str msg) rfl) fun u1 gl1 Ru1 => ?_
    refine E1A2 (F.getL_some Fc.N (a := 17) (d := sp) rfl) fun u2 gl2 Ru2 => ?_
    have load : ∀ {A' : Around} {E' : Value → Shared → Prop} {Q' : Value → Shared → Prop} {sx : Shared} {p : Pos}, sx.heap = h5 → Q' (.ref b) sx → wpAny X.M A' (eval (.Name y2 p) env) Q' E' sx := fun {A' E' Q' sx p} hh hq =>
      wpAny_Name (wpAny_loadName_local hV.kind hkx (by rw [hh]; exact hn5) (by simp) hq) hdbg
    have attr : ∀ {A' : Around} {E' : Value → Shared → Prop} {Q' : Value → Shared → Prop} {sx : Shared} {p p' : Pos} {zz : Str} {k : Nat} {u : Value} {d : D}, X.f zz = some k → findIn K (.ref cG) (X.nm k) = some none → getL (X.nm k) es = some (some u) → DRel X h5 ρ1 d u → sx.heap = h5 → Q' u { sx with toks := sx.toks + 1 } → wpAny X.M A' (eval (.Attribute (.Name y2 p) zz p') env) Q' E' sx := by
      intro A' E' Q' sx p p' zz k u d hz hfi hgl hru hh hq
      rw [arm_eval_Attribute, attrBase rfl]
      refine wpAny_bind (load hh (wpAny_bind (wpAny_standAt (wpAny_bind (wpAny_holding ?_)))))
      rw [Fc.N.inj zz k hz]
      refine get_valueE (K := K) (by rw [hh]; exact KI5) (C := cG) (ox := { cls := .ref cG, dict := some dx, data := .fields vs, slots := sl }) (od := some (dictOf es c)) ⟨by rw [hh]; exact g1, rfl, rfl, by show sx.heap.get? dx = _; rw [hh]; exact g2⟩ Gf.ga Gf.gk Gf.sb (findObj_own Gf.hd hfi rfl ((lookIn_dict ..).trans hgl)) (hru.handed Fc.C) ?_
      exact wpAny_bind (wpAny_pure (wpAny_pure hq))
    refine wpAny_execs_cons ?_
    show wpAny X.M _ (standAt q8 >>= fun _ => eval (.List [.Attribute (.Name y2 q3) z1 q4, .Attribute (.Name y2 q5) z2 q6] q7) env >>= fun v => Pure.pure (Flow.ret v)) _ _ _
    refine wpAny_bind (wpAny_standAt (wpAny_bind ?_))
    rw [arm_eval_List]
    refine wpAny_bind (wpAny_standAt (wpAny_bind ?_))
    show wpAny X.M _ (eval (.Attribute (.Name y2 q3) z1 q4) env >>= fun v => Pure.pure [v] >>= fun here => holding here (eval (.Attribute (.Name y2 q5) z2 q6) env >>= fun v => Pure.pure [v] >>= fun here => holding here (Pure.pure []) >>= fun r => Pure.pure (here ++ r)) >>= fun r => Pure.pure (here ++ r)) _ _ _
    refine wpAny_bind (attr hz1 Gf.a16 gl1 Ru1 rfl ?_)
    refine wpAny_bind (wpAny_pure (wpAny_bind (wpAny_holding ?_)))
    refine wpAny_bind (attr hz2 Gf.a17 gl2 Ru2 rfl ?_)
    refine wpAny_bind (wpAny_pure (wpAny_bind (wpAny_holding (wpAny_pure (wpAny_pure (wpAny_pure ?_))))))
    refine wpAny_newList ?_ (by show 2 ≤ sizeLine; rw [sizeLine_eq]; decide)
    refine wpAny_pure ?_
    generalize hs6 : ({ s4 with heap := h5.push { cls := .type "list", data := .seq ([u1] ++ ([u2] ++ [])).toArray }, toks := s4.toks + 1 + 1 + 1 } : Shared) = s6
    show wpAny X.M A (do bindName env y2 .none; unbindBehindTheSuite env y2 q9) _ _ _
    have S6 : Step fs Wr0 ({ s4 with heap := h5, toks := s4.toks + 1 } : Shared) s6 := by
      rw [← hs6]
      exact Step.push fs Wr0 ({ s4 with heap := h5, toks := s4.toks + 1 } : Shared) _ _
    have hs6h : s6.heap = h5.push (lstO [u1, u2].toArray 0) := by rw [← hs6]; rfl
    have a6 := a5.keeps S6
    refine E1A2 (a6.fr.ns) fun m6 hn6 hval6 => ?_
    refine wpAny_nameGoes_keeps hkx hn6 hp fun h7 v7 hn7 hs7 => ?_
    refine E0A3 (a6.turn Fc.N hV hno hval6 (m' := fun y => if y = y2 then v7 else m6 y) (tk := s6.toks + 1) (fun y hy => if_neg (by rw [ex]; exact hy)) hn7 hs7) fun a7 S7 kk7 => ?_
    have hDl : h5.objs.size ≠ env.locals := by
      refine E3A2 (hn5) fun o es' ep gL _ => ?_; try clear hn5
      exact Nat.ne_of_gt (Heap.lt_size gL)
    have hD : h7.get? h5.objs.size = some (lstO [u1, u2].toArray 0) := (hs7.2 _ hDl).trans (by rw [hs6h]; exact Heap.get?_push_size _ rfl)
    have r6 : ∀ {d : D} {u : Value}, DRel X h5 ρ1 d u → DRel X h7 ρ1 d u := fun {d u} r => (DRel.step (s := ({ s4 with heap := h5, toks := s4.toks + 1 } : Shared)) a5.inv.stk S6.of0 (Ext.refl _ _) r).mono kk7
    refine fin ⟨ρ1, x1, a7.inv, ⟨a7.fr, _, rfl, _, [u1, u2].toArray, 0, rfl, hD, a5.inv.fresh, ⟨u1, [u2], rfl, r6 Ru1, u2, [], rfl, r6 Ru2, rfl⟩⟩, ?_⟩
    have L1 : Step fs (fun c => ownOf X env ks c ∨ Wr ρ c) s s4 := (low S14).mono fun _ z => z.elim (fun z => z.elim) .inr
    exact ((L1.trans S5 fun _ _ z => .inl z).trans S6 fun _ _ z => z.elim).trans S7 fun _ _ z => .inl z
end
end Mine
end
section
namespace Mine
open PySem PySem.Calls PyProof.Rows PySem.W
noncomputable def SndR (X : Wd) (cG : Addr) (T : Tab) (n : Nat) : Prop := ∀ (fs : List Env) (A : Around) (env : Env) (ks : Ks) (loc : Loc) (ρ : Rho) (H : Hp) (s : Shared) (m : Nat) (g : Str) (a b : Expr) (p1 p2 pos : Pos), AOK (n + 1) A fs → EnvOK X env ks → At X fs env ks loc ρ H s → X.f g = some 10 → isStar a = false → isStar b = false → ks.lookup 10 = some .globalImplicit →
  JE X cG fs A (PySem.exec (.Raise (some (.Call (.Name g p1) [a, b] [] p2)) none pos) env) (FlRel X env ks) (ownOf X env ks) ρ (exec T (n + 1) ks loc (.raise (erE X.f m a) (erE X.f m b)) H) s
section
variable {X : Wd} {cG : Addr} {T : Tab} {K : Frag} {n : Nat}
theorem sub_is {α : Type} {Q : α → Prop} {o : Option { x : α // Q x }} {x : α} (h : o.map Subtype.val = some x) : Q x := by
  induction o with
  | none => cases h
  | some v => cases h; exact v.2
theorem JE.optS {own : Addr → Prop} {fs : List Env} {A : Around} {env : Env} {ks : Ks} {loc : Loc} {ρ : Rho} {H : Hp} {s : Shared} {α : Type} {t : Sem Flow} {o : Option α} {k : α → St} (h : ∀ a, o = some a → JE X cG fs A t (FlRel X env ks) own ρ (exec T (n + 1) ks loc (k a) H) s) :
    JE X cG fs A t (FlRel X env ks) own ρ (exec T (n + 1) ks loc (Mine.optS o k) H) s := by
  induction o with
  | none => trivial
  | some a => exact h a rfl
theorem JE.optQ {own : Addr → Prop} {fs : List Env} {A : Around} {env : Env} {ks : Ks} {loc : Loc} {ρ : Rho} {H : Hp} {s : Shared} {α : Type} {P : α → Prop} {t : Sem Flow} {o : Option (Subtype P)} {k : Subtype P → St} (h : ∀ a p, JE X cG fs A t (FlRel X env ks) own ρ (exec T (n + 1) ks loc (k ⟨a, p⟩) H) s) :
    JE X cG fs A t (FlRel X env ks) own ρ (exec T (n + 1) ks loc (Mine.optS o k) H) s := JE.optS fun a _ => h a.1 a.2
theorem JE.guS {own : Addr → Prop} {fs : List Env} {A : Around} {env : Env} {ks : Ks} {loc : Loc} {ρ : Rho} {H : Hp} {s : Shared} {c : Bool} {t : Sem Flow} {x : St} (h : c = false → JE X cG fs A t (FlRel X env ks) own ρ (exec T (n + 1) ks loc x H) s) :
    JE X cG fs A t (FlRel X env ks) own ρ (exec T (n + 1) ks loc (Mine.guS c x) H) s := by
  induction c with
  | true => trivial
  | false => exact h rfl
theorem JE.guR {own : Addr → Prop} {fs : List Env} {A : Around} {env : Env} {ks : Ks} {loc : Loc} {ρ : Rho} {H : Hp} {s : Shared} {c : Bool} {t : Sem Flow} {x : St} (h : c = true → JE X cG fs A t (FlRel X env ks) own ρ (exec T (n + 1) ks loc x H) s) :
    JE X cG fs A t (FlRel X env ks) own ρ (exec T (n + 1) ks loc (Mine.guR c x) H) s := by
  induction c with
  | false => trivial
  | true => exact h rfl
theorem raise_eq {v : Expr × List Expr × List Keyword × Pos} {g : Str} {p : Pos} {q : Expr × Expr} (e1 : v.1 = .Name g p) (e2 : v.2.1 = [q.1, q.2]) (e3 : v.2.2.1 = []) : Expr.Call v.1 v.2.1 v.2.2.1 v.2.2.2 = .Call (.Name g p) [q.1, q.2] [] v.2.2.2 := by rw [e1, e2, e3]
theorem try_eq {h : ExceptHandler} {x : Option Expr × Option Str × List Stmt} {t r : Expr} {g n : Str} {l : List Expr} {q : Expr × Expr} {c d : Str × Str} {q2 q3 q4 q5 q6 q7 q8 q9 : Pos} (e3 : h = .ExceptHandler x.1 x.2.1 x.2.2 q9) (e4 : x.1 = some t) (e5 : t = .Name g q2) (e6 : x.2.1 = some n)
    (e7 : x.2.2 = [.Return (some r) q8]) (e8 : r = .List l q7) (e9 : l = [q.1, q.2]) (e10 : q.1 = .Attribute (.Name c.1 q3) c.2 q4) (e11 : q.2 = .Attribute (.Name d.1 q5) d.2 q6) :
    [h] = [.ExceptHandler (some (.Name g q2)) (some n) [.Return (some (.List [.Attribute (.Name c.1 q3) c.2 q4, .Attribute (.Name d.1 q5) d.2 q6] q7)) q8] q9] := by rw [e3, e4, e5, e6, e7, e8, e9, e10, e11]
theorem exec_step (Fc : Facts X cG K T) (Gf : GfOK X cG K) (hE : SndE X cG T n) (hT : SndT X cG T n) (hM : SndM X cG T n) (hX : SndX X cG T n) (hR : SndR X cG T n) : SndX X cG T (n + 1) := by
  intro fs A env ks loc ρ H s m st hA hV a hf hh
  revert Fc Gf hE hT hM hX hR hA hV a hf hh; revert X cG T K n fs A env ks loc ρ H s m st
  refine @(eps13 (P := ?P) (dX, dN, dT, df, dN, dG, dA, dE, dK, dL, dR, dH, dS) rfl ((?m : Pi13 ?P) _ _ _ _ _ _ _ _ _ _ _ _ _))
  intro X cG T K n fs A env ks loc ρ H s m st Fc Gf hE hT hM hX hR hA hV a hf hh
  have hA' := hA.le (Nat.le_succ n)
  cases m with
  | zero => trivial
  | succ m =>
  have bad : ∀ {t : Sem Flow}, JE X cG fs A t (FlRel X env ks) (ownOf X env ks) ρ (exec T (n + 1) ks loc .bad H) s := trivial
  cases st with
  | Expr e p => exact JE.guS fun h => exprS_snd hE hA' hV a _ _ h
  | Assign ts e tc =>
    refine JE.optQ fun t e1 => ?_
    subst e1
    cases t with
    | Name x p => exact JE.optS fun k hx => JE.guS fun h => asg_snd Fc.N hE hM hA' hV a _ _ _ _ _ hx h
    | Tuple ts c p =>
      refine JE.optS fun ns hns => ?_
      show JE X cG fs A _ _ _ ρ (exec T (n + 1) ks loc ((tupP e).elim _ _) H) s
      cases ht : tupP e with
      | none => exact JE.guS fun h => asgT_snd Fc.N hE hA' hV a _ _ _ _ _ ns hns h ht
      | some v =>
        obtain ⟨es, c2, p2, e1⟩ := v
        clear ht
        subst e1
        exact JE.optS fun rev hrev => JE.guR fun h1 => JE.guS fun h2 => JE.guR fun h3 => asgTT_snd Fc.N hE hM hA' hV a _ _ _ _ _ _ _ ns rev hns hrev (eq_of_beq h1) h2 (of_decide_eq_true h3)
    | Attribute o x p => exact JE.optS fun k hx => JE.guS fun h => asgA_snd Fc hE hA' hV a _ _ _ _ _ _ hx h
    | Subscript o i p => exact JE.guS fun h => asgS_snd hE hA' hV a _ _ _ _ _ h
    | _ => exact bad
  | AugAssign t op e p =>
    refine JE.optQ fun v e1 => JE.optS fun k hx => ?_
    subst e1
    exact augA_snd Fc hE hA' hV a _ _ _ _ _ _ _ hx
  | Return v p =>
    refine JE.optS fun e e1 => ?_
    subst e1
    show JE X cG fs A _ _ _ ρ (exec T (n + 1) ks loc ((listP e).elim _ _) H) s
    cases listP e with
    | none => exact ret_snd a _ _ (hE fs A env ks loc ρ H s m _ hA' hV a)
    | some v =>
      obtain ⟨es, p1, e1⟩ := v
      subst e1
      exact JE.guS fun h => ret_snd a _ _ (hM fs A env ks loc ρ H s m true _ _ hA' hV a h)
  | If t b o p => exact ifS_snd hT hX hA' hV hf hh a _ _ _ _
  | While t b o p =>
    refine JE.guR fun ho => ?_
    rw [List.isEmpty_iff.mp ho]
    exact while_snd hT hX hA' hV hf hh a _ _ _
  | For t iter b o p =>
    refine JE.guR fun ho => JE.optQ fun x e1 => JE.optS fun k hx => JE.guS fun h => e1.elim fun p1 e1 => ?_
    subst e1
    rw [List.isEmpty_iff.mp ho]
    exact for_snd Fc.N hE hX hA' hV hf hh a _ _ _ hx _ h _ _
  | Raise e c p =>
    refine JE.guR fun hc => JE.optS fun e e1 => JE.optQ fun v e2 => JE.optQ fun g e3 => JE.optQ fun q e4 => JE.guR fun h => JE.guS fun h1 => JE.guS fun h2 => e3.elim fun p1 e3 => ?_
    have h := Bool.and_eq_true_iff.mp h
    have h' := Bool.and_eq_true_iff.mp h.2
    have e2 := e2.trans (raise_eq e3 e4 (List.isEmpty_iff.mp h.1))
    show JE X cG fs A _ _ _ ρ (exec T (n + 1) ks loc (.raise (erE X.f m q.1) (erE X.f m q.2)) H) s
    rw [e1, e2, Option.isNone_iff_eq_none.mp hc]
    exact hR fs A env ks loc ρ H s m _ _ _ _ _ _ hA hV a (eq_of_beq h'.1) h1 h2 (eq_of_beq h'.2)
  | Try b hs o f p =>
    refine JE.guR fun ho => JE.optQ fun e e1 => JE.optQ fun h e2 => JE.optQ fun x e3 => JE.optS fun t e4 => JE.optQ fun g e5 => JE.optS fun en e6 => JE.optQ fun r e7 => JE.optQ fun l e8 => JE.optQ fun q e9 => JE.optQ fun c e10 => JE.optQ fun d e11 => JE.guR fun hc => ?_
    have ho := Bool.and_eq_true_iff.mp ho
    have hc := Bool.and_eq_true_iff.mp hc
    have k1 := Bool.and_eq_true_iff.mp hc.2
    have k2 := Bool.and_eq_true_iff.mp k1.2
    have k3 := Bool.and_eq_true_iff.mp k2.2
    have k4 := Bool.and_eq_true_iff.mp k3.2
    have k5 := Bool.and_eq_true_iff.mp k4.2
    have k6 := Bool.and_eq_true_iff.mp k5.2
    refine e1.elim fun q1 e1 => e3.elim fun q9 e3 => e5.elim fun q2 e5 => e7.elim fun q8 e7 => e8.elim fun q7 e8 => e10.elim fun q3 e10 => e10.elim fun q4 e10 => e11.elim fun q5 e11 => e11.elim fun q6 e11 => ?_
    have e2 := e2.trans (try_eq e3 e4 e5 e6 e7 e8 e9 e10 e11)
    show JE X cG fs A _ _ _ ρ (exec T (n + 1) ks loc (.try_ (erE X.f m e)) H) s
    rw [e1, e2, List.isEmpty_iff.mp ho.1, List.isEmpty_iff.mp ho.2]
    exact try_snd Fc Gf hE hA' hV hf hh a _ _ _ _ _ _ _ _ _ _ _ _ _ _ _ _ _ (eq_of_beq hc.1) (eq_of_beq k1.1) (eq_of_beq k2.1) (eq_of_beq k3.1) (eq_of_beq k4.1) (eq_of_beq k5.1) (eq_of_beq k6.1) (eq_of_beq k6.2)
  | Break p => exact JE.stand (JE.next (fl := .brk) a rfl)
  | _ => exact bad
theorem sound (Fc : Facts X cG K T) (Gf : GfOK X cG K) (Fn : FnsOK X T) (hlim : X.B.NoLimit) (hRep : reprSnd X cG) (hR : ∀ n, SndE X cG T n → SndR X cG T n) :
    ∀ n, SndE X cG T n ∧ SndT X cG T n ∧ SndM X cG T n ∧ SndX X cG T n ∧ SndK X cG T n ∧ SndA X cG T n
  | 0 => by
    refine ⟨?_, ?_, ?_, ?_, ?_, ?_⟩
    · intro fs A env ks loc ρ H s m e _ _ _; trivial
    · intro fs A env ks loc ρ H s m e _ _ _; trivial
    · intro fs A env ks loc ρ H s m mu es p _ _ _ _; trivial
    · intro fs A env ks loc ρ H s m st _ _ _ _ _; trivial
    · intro fs A ρ H s g vs ws _ _ _; trivial
    · intro fs A ρ H s fv fw vs ws _ _ _ _; trivial
  | n + 1 => by
    refine E0A6 (sound Fc Gf Fn hlim hRep hR n) fun hE hT hM hX hK hP => ?_
    exact ⟨evalE_step Fc hE hT hK.c hP (comp_snd Fc.N hE hT), testE_step hE hT, SndM.step hE, exec_step Fc Gf hE hT hM hX (hR n hE), call_step Fc.N Fn hlim leave_snd hX, apply_step Fc hRep hK⟩
end
end Mine
end
section
namespace Mine
open PySem PySem.Calls PyProof.Rows PySem.W
section
variable {prog : Program} {w : World} {A : Around} {R : Result → Shared → Prop} {h : Heap} {g : Array GenState} {d : Drawn} {t : Nat} {os : OsState}
variable {nm q : Str} {C N : Addr} {bs bm : List Value} {hdct : Bool} {sn : List Str} {sub : List Value} {ab : Bool} {col : Option Bool} {dd : Option Addr} {k0 k1 k2 k3 k5 : Option Value}
theorem exc_check_new {M : Model} {E : Value → Shared → Prop} (hcont : (Value.ref C :: bm).contains (.type "Exception") = true) {rest : List Value} {Q : Unit → Shared → Prop} (hC : h.get? C = some (excClassObj nm q C N bs bm hdct sn sub ab col dd k0 k1 k2 k3 k5 "Exception.__new__"))
    (hq : Q () ⟨h, g, d, t, os⟩) : wpAny M A (checkBuiltinCall "Exception.__new__" ⟨.ref C :: rest, []⟩) Q E ⟨h, g, d, t, os⟩ := by
  revert hcont hC hq; revert A h g d t os nm q C N bs bm hdct sn sub ab col dd k0 k1 k2 k3 k5 M E rest Q
  refine @(eps25 (P := ?P) (dA, dh, (default : Array PySem.GenState), dD, dN, (default : PySem.OsState), ds, ds, dN, dN, (default : List PySem.Value), (default : List PySem.Value), dB, (default : List PySem.Str), (default : List PySem.Value), dB, (default : Option Bool), (default : Option PySem.Addr), (default : Option PySem.Value), (default : Option PySem.Value), (default : Option PySem.Value), (default : Option PySem.Value), (default : Option PySem.Value), dM, dq) rfl ((?m : Pi25 ?P) _ _ _ _ _ _ _ _ _ _ _ _ _ _ _ _ _ _ _ _ _ _ _ _ _))
  intro A h g d t os nm q C N bs bm hdct sn sub ab col dd k0 k1 k2 k3 k5 M E rest Q hcont hC hq
  have F := PySem.F.excBase_Exception
  have hstar := F.noStar
  simp only [checkBuiltinCall, F.newKind, F.newSplit, F.newRow]
  repeat (first | refine wpAny_loadPart_at hC ?_ | (refine wpAny_isSubtype_exc hC ?_; rw [hcont]) | refine wpAny_staticBase_exc hC ?_ | refine wpAny_madeBy_exc hC ?_ | simp only [bne_self_eq_false, Bool.false_eq_true, if_false] | wp_step)
  exact hq
theorem exc_new_own (hcB : (Value.ref C :: bm).contains (.type "Exception") = true) (hcA : (Value.ref C :: bm).contains (.type "AttributeError") = false) (hcN : (Value.ref C :: bm).contains (.type "NameError") = false) {rest : List Value}
    (hC : h.get? C = some (excClassObj nm q C N bs bm hdct sn sub ab col dd k0 k1 k2 k3 k5 "Exception.__new__"))
    (hq : R (.ok (.ret (.ref (h.objs.size + 1)))) ⟨(h.push { cls := .type "tuple", data := .seq rest.toArray }).push
      { cls := .ref C, data := .fields #[.ref h.objs.size, .none, .none, .none, .bool false, .none] }, g, d, t, os⟩) (hrest : rest.length ≤ sizeLine) :
    codeAny (model prog w) A (.builtin "Exception.__new__" ⟨.ref C :: rest, []⟩) R ⟨h, g, d, t, os⟩ := by
  revert hcB hcA hcN hC hq hrest; revert prog w A R h g d t os nm q C N bs bm hdct sn sub ab col dd k0 k1 k2 k3 k5 rest
  refine @(eps25 (P := ?P) ((default : PySem.Program), dW, dA, (default : PySem.Result → PySem.Shared → Prop), dh, (default : Array PySem.GenState), dD, dN, (default : PySem.OsState), ds, ds, dN, dN, (default : List PySem.Value), (default : List PySem.Value), dB, (default : List PySem.Str), (default : List PySem.Value), dB, (default : Option Bool), (default : Option PySem.Addr), (default : Option PySem.Value), (default : Option PySem.Value), (default : Option PySem.Value), (default : Option PySem.Value)) rfl ((?m : Pi25 ?P) _ _ _ _ _ _ _ _ _ _ _ _ _ _ _ _ _ _ _ _ _ _ _ _ _))
  intro prog w A R h g d t os nm q C N bs bm hdct sn sub ab col dd k0 k1 k2 k3 k5 rest hcB hcA hcN hC hq hrest
  have F := PySem.F.excBase_Exception
  have hends := F.ends
  refine codeAny_builtinAt F.entry ?_
  unfold Builtin.«BaseException.__new__»
  refine PySem.wpAt_bind ?_
  show PySem.wpAt _ _ _ (stack >>= _) _ _ _
  refine PySem.wpAt_bind (PySem.wpAt_stack fun p below => PySem.wpAt_of_wpAny ?_)
  wp_walk
  refine PySem.wpAt_of_wpAny ?_
  rw [F.owner]
  repeat (first | with_reducible refine wpAny_madeHere_exc F.canon hC ?_ | with_reducible refine wpAny_loadPart_at hC ?_ | (with_reducible refine wpAny_isSubtype_exc hC ?_; first | rw [hcB] | rw [hcA] | rw [hcN]) | wp_step)
  show R _ _
  rw [Heap.size_push]
  exact hq
noncomputable abbrev excObj (C tu : Addr) : Obj := { cls := .ref C, data := .fields #[.ref tu, .none, .none, .none, .bool false, .none] }
theorem exc_make {rest : List Value} {fI : Addr} (hC : h.get? C = some (excClassObj nm q C N bs bm hdct sn sub ab col dd k0 k1 k2 k3 k5 "Exception.__new__"))
    (hcB : (Value.ref C :: bm).contains (.type "Exception") = true) (hcA : (Value.ref C :: bm).contains (.type "AttributeError") = false) (hcN : (Value.ref C :: bm).contains (.type "NameError") = false)
    (call : Looks (model prog w) h (specialOf (.ref C) "__call__") (some (.builtin "type.__call__"))) (typ : Looks (model prog w) h (isInstance (.ref C) (.type "type")) true)
    (hi : Looks (model prog w) h (typeLookup (.ref C) "__init__") (some (.ref fI))) (hb : ∀ self, Looks (model prog w) h (bindSpecial (.ref fI) self) (.ref fI, [self])) (hrest : rest.length ≤ sizeLine)
    (hq : codeAny (model prog w) (A.under (.builtin "type.__call__" ⟨.ref C :: rest, []⟩)) (.call (.ref fI) ⟨.ref (h.objs.size + 1) :: rest, []⟩) (InitBack (h.objs.size + 1) R)
      ⟨(h.push { cls := .type "tuple", data := .seq rest.toArray }).push (excObj C h.objs.size), g, d, t, os⟩) :
    codeAny (model prog w) A (.call (.ref C) ⟨rest, []⟩) R ⟨h, g, d, t, os⟩ := by
  revert hC hcB hcA hcN call typ hi hb hrest hq; revert prog w A R h g d t os nm q C N bs bm hdct sn sub ab col dd k0 k1 k2 k3 k5 rest fI
  refine @(eps28 (P := ?P) ((default : PySem.Program), dW, dA, (default : PySem.Result → PySem.Shared → Prop), dh, (default : Array PySem.GenState), dD, dN, (default : PySem.OsState), ds, ds, dN, dN, (default : List PySem.Value), (default : List PySem.Value), dB, (default : List PySem.Str), (default : List PySem.Value), dB, (default : Option Bool), (default : Option PySem.Addr), (default : Option PySem.Value), (default : Option PySem.Value), (default : Option PySem.Value), (default : Option PySem.Value), (default : Option PySem.Value), (default : List PySem.Value), dN) rfl ((?m : Pi28 ?P) _ _ _ _ _ _ _ _ _ _ _ _ _ _ _ _ _ _ _ _ _ _ _ _ _ _ _ _))
  intro prog w A R h g d t os nm q C N bs bm hdct sn sub ab col dd k0 k1 k2 k3 k5 rest fI hC hcB hcA hcN call typ hi hb hrest hq
  have F := PySem.F.excBase_Exception
  refine codeAny_of_tree ?_
  show wpAny _ _ (callAny (.ref C) _) _ _ _
  refine nd_load hC ?_
  show wpAny _ _ (callAny.viaDunder (.ref C) _) _ _ _
  unfold callAny.viaDunder
  refine wpAny_bind (call.at ?_)
  dsimp only
  rw [tc_bind]
  refine wpAny_bind (wpAny_pure (wpAny_bind (wpAny_pure ?_)))
  refine wpAny_pure (a := Fin.again (.call (.builtin "type.__call__") ⟨.ref C :: rest, []⟩)) (And.intro rfl ?_)
  refine codeAny_call_builtin_at (Code.quiet_builtin _ (by decide +kernel)) entry_typeCall (check_slot tc_kind tc_split typ (tc_args _ _ _) ?_)
  unfold Builtin.«type.__call__»
  repeat (first | with_reducible refine wpAny_loadPart_at hC ?_ | with_reducible refine wpAny_madeBy_exc hC ?_ | wp_step)
  refine codeAny_call_builtin_code (Code.quiet_builtin _ F.quiet) (exc_check_new hcB hC ?_)
  refine exc_new_own hcB hcA hcN hC ?_ hrest
  show wpAny _ _ _ _ _ _
  have k : ∀ b o, h.get? b = some o → ((h.push { cls := .type "tuple", data := .seq rest.toArray }).push (excObj C h.objs.size)).get? b = some o := fun b o e => Heap.get?_push_of_some _ (Heap.get?_push_of_some _ e)
  have hC₁ := k _ _ hC
  have hget : ((h.push { cls := .type "tuple", data := .seq rest.toArray }).push (excObj C h.objs.size)).get? (h.objs.size + 1) = some (excObj C h.objs.size) := by heap_get
  have hcC : (Value.ref C :: bm).contains (.ref C) = true := by simp
  unfold isInstance
  repeat (first | with_reducible refine wpAny_loadPart_at hget ?_ | (with_reducible refine wpAny_isSubtype_exc hC₁ ?_; rw [hcC]) | wp_step)
  have i1 := hi.keeps k
  have b1 := (hb (.ref (h.objs.size + 1))).keeps k
  have t1 : Looks (model prog w) ((h.push { cls := .type "tuple", data := .seq rest.toArray }).push (excObj C h.objs.size)) (typeOf (.ref (h.objs.size + 1))) (.ref C) := (Looks.ld hget).andThen .now
  repeat (first | with_reducible refine wpAny_call ?_ | lk)
  refine codeAny_mono hq fun r s' z => ?_
  rcases r with e | (v | _ | _ | _) <;> first | exact z | exact z.elim | skip
  refine E0A2 (z) fun hz0 z => ?_; subst hz0; try clear z
  exact wpAny_pure (wpAny_pure z)
end
end Mine
end
section
namespace Mine
open PySem PySem.Calls PyProof.Rows PySem.W
open PySem.Builtin PySem.Builtin.ObjectAttr
section
variable {prog : Program} {w : World} {A : Around} {R : Result → Shared → Prop} {s : Shared} {K : Frag} {x C : Addr}
structure ExcCls (K : Frag) (C : Addr) : Prop where
  cls : ∃ cd, clsIn K C = some cd ∧ cd.mro.isEmpty = false ∧ cd.mro.contains (.type "object") = true ∧ (∀ self, refuseLoop self "__setattr__" cd.mro = pure ()) ∧ cd.hasDict = true
theorem osa_openE {ox : Obj} {od : Option Obj} {name : Str} {tk : Tok} {v : Value} (Y : ExcCls K C) (X : K.In s.heap) (I : InstAt s.heap x ox C od) (ht : takerIn K C name = some none)
    (h : ∀ b, wpAny (model prog w) A.in1 (storeInOwnDict (.ref x) (.ref C) (.str name tk) name v b)
      (fun fin s' => match fin with | .done f => R (.ok f) s' | .again c' => c'.quiet = true ∧ codeAny (model prog w) A c' R s') (fun e s' => R (.error e) s') s) :
    codeAny (model prog w) A (.call (.builtin "object.__setattr__") ⟨[.ref x, .str name tk, v], []⟩) R s := by
  revert Y X I ht h; revert prog w A R s K x C ox od name tk v
  refine @(eps13 (P := ?P) ((default : PySem.Program), dW, dA, (default : PySem.Result → PySem.Shared → Prop), dS, df, dN, dN, (default : PySem.Obj), (default : Option PySem.Obj), ds, (default : PySem.Tok), dV) rfl ((?m : Pi13 ?P) _ _ _ _ _ _ _ _ _ _ _ _ _))
  intro prog w A R s K x C ox od name tk v Y X I ht h
  have SF := PySem.F.store_object
  refine E1A5 (Y.cls) fun cd hc ne ho hpass _ => ?_
  have sub : Looks (model prog w) s.heap (isInstance (.ref x) (.type "object")) true := I.type.andThen (looks_mroIn X (by unfold mroIn; rw [hc, Option.bind_some, if_neg (by rw [ne]; decide), ho]))
  refine codeAny_call_builtin SF.slot.plain SF.entry (@check_slot (model prog w) _ _ s "object.__setattr__" "object" "__setattr__" (.ref x) [.str name tk, v] [] _ SF.kind SF.split sub (SF.args (.ref x) (.str name tk) v) ?_)
  refine E1A2 (Option.bind_eq_some_iff.mp ht) fun attr ha hr => ?_
  have hm : Looks (model prog w) s.heap (mroOf (.ref C)) cd.mro := (looks_clsIn X hc).andThen .now
  have L3 : Looks (model prog w) s.heap (storeTaker? attr) none := by
    induction attr with
    | none => cases hr; exact .now
    | some a =>
      refine E1A2 (Option.map_eq_some_iff.mp hr) fun b hb e => ?_
      have hbf : b = false := by cases b <;> first | rfl | cases e
      subst hbf
      exact (looks_takesIn X hb).andThen .now
  rw [osa_eq, refuse_eq]
  refine wpAny_bind (wpAny_bind (I.type.here (wpAny_bind (hm.here ?_))))
  rw [hpass]
  refine wpAny_pure (wpAny_bind (I.type.here (wpAny_bind ((looks_findIn X ha).here (wpAny_bind (L3.here ?_))))))
  exact h _
theorem putL_len (name : Str) (hs : Int) (k v : Value) : ∀ es : List DictEntry, (putL name hs k v es).length ≤ es.length + 1
  | [] => Nat.le_refl _
  | e :: r => by
    unfold putL
    split
    · exact Nat.le_succ _
    · simpa using putL_len name hs k v r
theorem exc_dict {dx : Addr} {es : List DictEntry} {n : Nat} {name : Str} {tk : Tok} {v : Value} {E : Value → Shared → Prop} {Q : Option Addr → Shared → Prop} {Q' : PySem.Fin → Shared → Prop} (h2 : s.heap.get? dx = some (dicO es n)) (hl : (getL name es).isSome = true) (hz : es.length < 900)
    (h : Q' (.done (.ret .none)) { s with heap := s.heap.update dx (Obj.putName name (PyData.keyHash w.params name) (.str name s.toks) v), toks := s.toks + 1 }) :
    wpAny (model prog w) A (storeInDict dx (.str name tk) name v) Q' E s := by
  revert h2 hl hz h; revert prog w A s dx es n name tk v E Q Q'
  refine @(eps13 (P := ?P) ((default : PySem.Program), dW, dA, dS, dN, (default : List PySem.DictEntry), dN, ds, (default : PySem.Tok), dV, dq, (default : Option PySem.Addr → PySem.Shared → Prop), (default : PySem.Fin → PySem.Shared → Prop)) rfl ((?m : Pi13 ?P) _ _ _ _ _ _ _ _ _ _ _ _ _))
  intro prog w A s dx es n name tk v E Q Q' h2 hl hz h
  unfold storeInDict newKeyGuard
  refine wpAny_bind (wpAny_pure (wpAny_bind ?_))
  unfold nsSet
  refine wpAny_bind (wpAny_bind (wpAny_askSetting (wpAny_pure (wpAny_bind (wpAny_mkText (wpAny_bind (wpAny_loadPart h2 ?_)))))))
  dsimp only
  have c : (!es.toArray.any (·.key.isStr name) && es.toArray.any (·.refKey)) = false := by
    rw [← Array.any_toList, ← Array.any_toList]
    unfold getL at hl
    split at hl
    · rename_i en he
      rw [List.any_eq_true.mpr ⟨en, List.mem_of_find?_eq_some he, List.find?_some he⟩]; rfl
    · split at hl
      · cases hl
      · rename_i z; rw [Bool.not_eq_true] at z; rw [z, Bool.and_false]
  rw [aRefKeyMayBeTheName_at, c]
  refine wpAny_updatePart h2 ?_
  have e := putName_dict name (PyData.keyHash w.params name) (.str name s.toks) v es n
  have D' : (s.heap.update dx (Obj.putName name (PyData.keyHash w.params name) (.str name s.toks) v)).get? dx = some (dictOf (putL name (PyData.keyHash w.params name) (.str name s.toks) v es) (putN name es n)) := by
    rw [← e]
    exact Heap.get?_update_self _ h2 (by rw [e]; rfl)
  refine wpAny_bind (wpAny_lookBehind D' (pastItsLine_dict (by have := putL_len name (PyData.keyHash w.params name) (.str name s.toks) v es; rw [List.size_toArray, sizeLine_eq]; lia)) ?_)
  exact wpAny_pure h
theorem exc_store2 {dx : Addr} {vs : Array Value} {sl : Array (Option Value)} {es : List DictEntry} {n : Nat} {name : Str} {v : Value} {E : Value → Shared → Prop} {Q : Unit → Shared → Prop} (Y : ExcCls K C) (X : K.In s.heap) (hs : findIn K (.ref C) "__setattr__" = some (some (.builtin "object.__setattr__"))) (ht : takerIn K C name = some none)
    (h1 : s.heap.get? x = some { cls := .ref C, dict := some dx, data := .fields vs, slots := sl }) (h2 : s.heap.get? dx = some (dicO es n)) (hl : (getL name es).isSome = true) (hz : es.length < 900)
    (h : Q () { s with heap := s.heap.update dx (Obj.putName name (PyData.keyHash w.params name) (.str name (s.toks + 1)) v), toks := s.toks + 1 + 1 }) : wpAny (model prog w) A (setAttr (.ref x) name v) Q E s := by
  revert Y X hs ht h1 h2 hl hz h; revert prog w A s K x C dx vs sl es n name v E Q
  refine @(eps16 (P := ?P) ((default : PySem.Program), dW, dA, dS, df, dN, dN, dN, (default : Array PySem.Value), (default : Array (Option PySem.Value)), (default : List PySem.DictEntry), dN, ds, dV, dq, (default : Unit → PySem.Shared → Prop)) rfl ((?m : Pi16 ?P) _ _ _ _ _ _ _ _ _ _ _ _ _ _ _ _))
  intro prog w A s K x C dx vs sl es n name v E Q Y X hs ht h1 h2 hl hz h
  have I : InstAt s.heap x { cls := .ref C, dict := some dx, data := .fields vs, slots := sl } C (some (dictOf es n)) := ⟨h1, rfl, rfl, h2⟩
  refine E1A5 (Y.cls) fun cd hc _ _ _ hd => ?_
  refine set_plain X I hs (osa_openE (s := { s with toks := s.toks + 1 }) Y X I ht fun b => ?_)
  refine wpAny_bind (wpAny_pure (wpAny_bind (wpAny_bind (wpAny_loadPart h1 (wpAny_bind (looks_clsIn X hc _ _ _ _ (fun _ _ e => e) ?_))))))
  rw [hd]
  refine wpAny_pure (a := some dx) ?_
  exact exc_dict (s := { s with toks := s.toks + 1 }) (Q := fun _ _ => True) h2 hl hz h
theorem exc_store1 {vs : Array Value} {name : Str} {v : Value} {E : Value → Shared → Prop} {Q : Unit → Shared → Prop} (Y : ExcCls K C) (X : K.In s.heap) (hs : findIn K (.ref C) "__setattr__" = some (some (.builtin "object.__setattr__"))) (ht : takerIn K C name = some none)
    (h1 : s.heap.get? x = some { cls := .ref C, data := .fields vs })
    (h : Q () { s with heap := ((s.heap.push emptyDict).update x fun o => { o with dict := some s.heap.objs.size }).update s.heap.objs.size (Obj.putName name (PyData.keyHash w.params name) (.str name (s.toks + 1)) v), toks := s.toks + 1 + 1 }) : wpAny (model prog w) A (setAttr (.ref x) name v) Q E s := by
  revert Y X hs ht h1 h; revert prog w A s K x C vs name v E Q
  refine @(eps10 (P := ?P) ((default : PySem.Program), dW, dA, dS, df, dN, dN, (default : Array PySem.Value), ds, dV) rfl ((?m : Pi10 ?P) _ _ _ _ _ _ _ _ _ _))
  intro prog w A s K x C vs name v E Q Y X hs ht h1 h
  have I : InstAt s.heap x { cls := .ref C, data := .fields vs } C none := ⟨h1, rfl, rfl, trivial⟩
  refine E1A5 (Y.cls) fun cd hc _ _ _ hd => ?_
  refine set_plain X I hs (osa_openE (s := { s with toks := s.toks + 1 }) Y X I ht fun b => ?_)
  refine wpAny_bind (wpAny_pure (wpAny_bind (wpAny_bind (wpAny_loadPart h1 (wpAny_bind (looks_clsIn X hc _ _ _ _ (fun _ _ e => e) ?_))))))
  rw [hd]
  have hx₁ : (s.heap.push emptyDict).get? x = some { cls := .ref C, data := .fields vs } := Heap.get?_push_of_some _ h1
  have hxs : x ≠ s.heap.objs.size := Nat.ne_of_lt (Heap.lt_size h1)
  show wpAny _ _ (if _ then _ else _) _ _ _
  rw [if_neg (by simp [typeHasDict])]
  refine wpAny_bind (wpAny_alloc ?_)
  refine wpAny_bind (wpAny_update hx₁ ?_)
  refine wpAny_pure (a := some s.heap.objs.size) ?_
  refine exc_dict (s := { s with heap := (s.heap.push emptyDict).update x fun o => { o with dict := some s.heap.objs.size }, toks := s.toks + 1 }) (Q := fun _ _ => True) (es := []) (n := 0) ?_ rfl (by decide) h
  exact (Heap.get?_update_other _ _ hxs).trans (Heap.get?_push_size _ rfl)
end
end Mine
end
section
namespace Mine
open PySem PySem.Calls PyProof.Rows PySem.W
section
variable {prog : Program} {w : World} {A : Around} {E : Value → Shared → Prop} {h : Heap} {g : Array GenState} {d : Drawn} {t : Nat} {os : OsState}
variable {nm q : Str} {C N : Addr} {bs bm : List Value} {hdct : Bool} {sn : List Str} {sub : List Value} {ab : Bool} {col : Option Bool} {dd : Option Addr} {k0 k1 k2 k3 k5 : Option Value} {newId : String}
theorem exc_check_init {M : Model} (hcB : (Value.ref C :: bm).contains (.type "Exception") = true) {e : Addr} {oe : Obj} {rest : List Value} {Q : Unit → Shared → Prop}
    (hC : h.get? C = some (excClassObj nm q C N bs bm hdct sn sub ab col dd k0 k1 k2 k3 k5 newId)) (he : h.get? e = some oe) (hcls : oe.cls = .ref C) (hq : Q () ⟨h, g, d, t, os⟩) :
    wpAny M A (checkBuiltinCall "Exception.__init__" ⟨.ref e :: rest, []⟩) Q E ⟨h, g, d, t, os⟩ := by
  revert hcB hC he hcls hq; revert A E h g d t os nm q C N bs bm hdct sn sub ab col dd k0 k1 k2 k3 k5 newId M e oe rest Q
  refine @(eps28 (P := ?P) (dA, dq, dh, (default : Array PySem.GenState), dD, dN, (default : PySem.OsState), ds, ds, dN, dN, (default : List PySem.Value), (default : List PySem.Value), dB, (default : List PySem.Str), (default : List PySem.Value), dB, (default : Option Bool), (default : Option PySem.Addr), (default : Option PySem.Value), (default : Option PySem.Value), (default : Option PySem.Value), (default : Option PySem.Value), (default : Option PySem.Value), (default : String), dM, dN, (default : PySem.Obj)) rfl ((?m : Pi28 ?P) _ _ _ _ _ _ _ _ _ _ _ _ _ _ _ _ _ _ _ _ _ _ _ _ _ _ _ _))
  intro A E h g d t os nm q C N bs bm hdct sn sub ab col dd k0 k1 k2 k3 k5 newId M e oe rest Q hcB hC he hcls hq
  have F := PySem.F.excBase_Exception
  have hshort := F.noStar
  simp only [checkBuiltinCall, F.initKind, F.initSplit, F.initRow]
  repeat (first | (with_reducible refine wpAny_loadPart_at he ?_; rw [hcls]) | with_reducible refine wpAny_loadPart_at hC ?_ | (with_reducible refine wpAny_isSubtype_exc hC ?_; rw [hcB]) | wp_step)
  refine wpAny_onRaise ?_
  rw [show ∀ (a b : String) (n : Nat), Bind.check ⟨.positional, "*", "Exception", .self, [⟨"args", .varPos, false⟩]⟩ a b n (List.map (fun x => x.fst) ({ pos := Value.ref e :: rest } : Args).kw) = pure () from
    fun a b n => check_star_args _ _ _ _ _ _]
  exact wpAny_pure hq
theorem exc_base_init (hcB : (Value.ref C :: bm).contains (.type "Exception") = true) {e : Addr} {vs : Array Value} {v : Value} {Q : Value → Shared → Prop}
    (hC : h.get? C = some (excClassObj nm q C N bs bm hdct sn sub ab col dd k0 k1 k2 k3 k5 newId)) (he : h.get? e = some { cls := .ref C, data := .fields vs }) (hv : 0 < vs.size)
    (hq : Q .none ⟨(h.push (tupO [v].toArray 0)).update e (Obj.mapFields (·.setIfInBounds 0 (.ref h.objs.size))), g, d, t, os⟩) :
    wpAny (model prog w) A (call (.builtin "Exception.__init__") [.ref e, v] []) Q E ⟨h, g, d, t, os⟩ := by
  revert hcB hC he hv hq; revert prog w A E h g d t os nm q C N bs bm hdct sn sub ab col dd k0 k1 k2 k3 k5 newId e vs v Q
  refine @(eps31 (P := ?P) ((default : PySem.Program), dW, dA, dq, dh, (default : Array PySem.GenState), dD, dN, (default : PySem.OsState), ds, ds, dN, dN, (default : List PySem.Value), (default : List PySem.Value), dB, (default : List PySem.Str), (default : List PySem.Value), dB, (default : Option Bool), (default : Option PySem.Addr), (default : Option PySem.Value), (default : Option PySem.Value), (default : Option PySem.Value), (default : Option PySem.Value), (default : Option PySem.Value), (default : String), dN, (default : Array PySem.Value), dV, dq) rfl ((?m : Pi31 ?P) _ _ _ _ _ _ _ _ _ _ _ _ _ _ _ _ _ _ _ _ _ _ _ _ _ _ _ _ _ _ _))
  intro prog w A E h g d t os nm q C N bs bm hdct sn sub ab col dd k0 k1 k2 k3 k5 newId e vs v Q hcB hC he hv hq
  have F := PySem.F.excBase_Exception
  refine wpAny_call (codeAny_call_builtin F.init.plain F.initEntry (exc_check_init hcB hC he rfl ?_))
  have he' : (h.push (tupO [v].toArray 0)).get? e = some { cls := .ref C, data := .fields vs } := Heap.get?_push_of_some _ he
  show wpAny _ _ (newTuple [v] >>= fun tu => Builtin.BaseException.bexcPut (.ref e) 0 tu [] >>= fun _ => ret .none) _ _ _
  refine wpAny_bind (wpAny_newTuple ?_ (by rw [sizeLine_eq]; show 1 ≤ 16777216; decide))
  unfold Builtin.BaseException.bexcPut
  refine wpAny_bind (wpAny_bind (wpAny_field he' rfl (Array.getElem?_eq_getElem hv) (wpAny_bind (wpAny_setField he' rfl hv ?_))))
  have fin : ∀ A', wpAny (model prog w) A' (ret .none) (fun fin s' => match fin with | .done f => (match (Except.ok f : Result) with | .ok (.ret v) => Q v s' | .ok _ => False | .error e => E e s') | .again c' => c'.quiet = true ∧ codeAny (model prog w) A c' (fun r s' => match r with | .ok (.ret v) => Q v s' | .ok _ => False | .error e => E e s') s') (fun e s' => E e s')
      ⟨(h.push (tupO [v].toArray 0)).update e (Obj.mapFields (·.setIfInBounds 0 (.ref h.objs.size))), g, d, t, os⟩ := fun A' => wpAny_pure hq
  split
  · exact wpAny_letGo (fin _)
  · exact wpAny_pure (fin _)
end
structure InitOK (X : Wd) (cG : Addr) (K : Frag) (fI : Addr) (fd : FuncData) : Prop where
  obj : ∃ o, X.B.get? fI = some o ∧ o.data = .func fd
  code : X.B.CodeRec fd.code fd.qualname
  glob : fd.globals = mainGlobals
  blt : fd.builtins = builtinsNs
  clo : fd.closure = []
  sc : fd.scope.kind = .function ∧ fd.scope.isCoroutine = false ∧ fd.scope.isGenerator = false ∧ (∀ x ∈ fd.scope.names, x.2 ≠ .cell) ∧ fd.scope.names.lookup ("self" : Str) = some .local ∧ fd.scope.names.lookup ("message" : Str) = some .local ∧ fd.scope.names.lookup ("spot" : Str) = some .local ∧ fd.scope.names.lookup ("Exception" : Str) = some .globalImplicit
  body : ∃ (p1 p2 p3 p4 p5 p6 p7 p8 p9 p10 p11 p12 p13 p14 : Pos), fd.body = .stmts [.Expr (.Call (.Attribute (.Name "Exception" p1) "__init__" p2) [.Name "self" p3, .Name "message" p4] [] p5) p6,
    .Assign [.Attribute (.Name "self" p7) "message" p8] (.Name "message" p9) p10, .Assign [.Attribute (.Name "self" p11) "spot" p12] (.Name "spot" p13) p14] ∧ (p2.endLine == p5.line) = true
  bind : ∀ (s : Shared) (u v z : Value), Based X s.heap → BindsTo s fd ⟨[u, v, z], []⟩ [("self", u), ("message", v), ("spot", z)]
  exc : ∃ mg mb, X.B.Ns mainGlobals mg ∧ X.B.Ns builtinsNs mb ∧ mg "Exception" = none ∧ mb "Exception" = some (.type "Exception")
  inB : K.In X.B
  find : findCls K (.type "Exception") (.type "type") "__init__" = some (.val (.builtin "Exception.__init__"))
  cls : ExcCls K cG
  sa : findIn K (.ref cG) "__setattr__" = some (some (.builtin "object.__setattr__"))
  t16 : takerIn K cG "message" = some none
  t17 : takerIn K cG "spot" = some none
  lim : X.B.NoLimit
section
variable {X : Wd} {cG : Addr} {K : Frag} {A : Around} {s : Shared} {fI x tu : Addr} {fd : FuncData}
variable {nm q : Str} {N : Addr} {bs bm : List Value} {hdct : Bool} {sn : List Str} {sub : List Value} {ab : Bool} {col : Option Bool} {dd : Option Addr} {k0 k1 k2 k3 k5 : Option Value} {newId : String}
set_option maxHeartbeats 2000000 in
set_option backward.match.sparseCases true in
theorem init_walk (Y : InitOK X cG K fI fd) (hcB : (Value.ref cG :: bm).contains (.type "Exception") = true) (hroom : A.depth < recursionLimit) (hb : Based X s.heap) (hC : X.B.get? cG = some (excClassObj nm q cG N bs bm hdct sn sub ab col dd k0 k1 k2 k3 k5 newId)) (hxl : X.B.objs.size ≤ x)
    (hx : s.heap.get? x = some (excObj cG tu)) {v z : Value} {Rr : Result → Shared → Prop}
    (h : ∀ hf tk tt1 tt2 T D, (∀ a o, a ≠ x → s.heap.get? a = some o → hf.get? a = some o) → s.heap.objs.size ≤ hf.objs.size → s.heap.objs.size ≤ D → hf.get? x = some { cls := .ref cG, dict := some D, data := .fields #[.ref T, .none, .none, .none, .bool false, .none] } →
      hf.get? D = some (dicO [⟨PyData.keyHash X.w.params "message", .str "message" tt1, v⟩, ⟨PyData.keyHash X.w.params "spot", .str "spot" tt2, z⟩] 2) → Rr (.ok (.ret .none)) { s with heap := hf, toks := tk }) :
    codeAny X.M A (.call (.ref fI) ⟨[.ref x, v, z], []⟩) Rr s := by
  revert Y hcB hroom hb hC hxl hx h; revert X cG K A s fI x tu fd nm q N bs bm hdct sn sub ab col dd k0 k1 k2 k3 k5 newId v z Rr
  refine @(eps28 (P := ?P) (dX, dN, df, dA, dS, dN, dN, dN, (default : PySem.FuncData), ds, ds, dN, (default : List PySem.Value), (default : List PySem.Value), dB, (default : List PySem.Str), (default : List PySem.Value), dB, (default : Option Bool), (default : Option PySem.Addr), (default : Option PySem.Value), (default : Option PySem.Value), (default : Option PySem.Value), (default : Option PySem.Value), (default : Option PySem.Value), (default : String), dV, dV) rfl ((?m : Pi28 ?P) _ _ _ _ _ _ _ _ _ _ _ _ _ _ _ _ _ _ _ _ _ _ _ _ _ _ _ _))
  intro X cG K A s fI x tu fd nm q N bs bm hdct sn sub ab col dd k0 k1 k2 k3 k5 newId v z Rr Y hcB hroom hb hC hxl hx h
  refine E1A2 (Y.obj) fun o ho hdata => ?_
  refine E0A8 (Y.sc) fun hk hco hgen hcell hl1 hl2 hl3 hl4 => ?_
  obtain ⟨p1, p2, p3, p4, p5, p6, p7, p8, p9, p10, p11, p12, p13, p14, hbody, hp⟩ := Y.body
  refine codeAny_call_function hroom (hb _ _ ho) hdata hco hgen hbody (Y.code.keeps hb) (Y.bind s _ _ _ hb _ _ _ _ ?_)
  rw [Y.clo]
  refine wpAny_newFunctionEnv hcell (fun y hy => ?_) (fun h1 hns1 hsb1 => ⟨(Y.lim.keeps hb).keeps fun b o e => hsb1.extBut b o (Nat.ne_of_lt (Heap.lt_size e)) (Heap.get?_push_of_some _ e), codeAny_func ?_⟩) hk
  · rcases List.mem_cons.mp hy with rfl | hy
    · exact hl1
    · rcases List.mem_cons.mp hy with rfl | hy
      · exact hl2
      · rcases List.mem_cons.mp hy with rfl | hy
        · exact hl3
        · cases hy
  have hL : ∀ {b : Addr}, b < s.heap.objs.size → b ≠ s.heap.objs.size := fun h => Nat.ne_of_lt h
  have k1 : ∀ b o, s.heap.get? b = some o → h1.get? b = some o := fun b o e => hsb1.extBut b o (hL (Heap.lt_size e)) (Heap.get?_push_of_some _ e)
  have z1 : h1.objs.size = s.heap.objs.size + 1 := by rw [hsb1.1, Heap.size_push]
  have hx1 := k1 _ _ hx
  have hxs : x < s.heap.objs.size := Heap.lt_size hx
  have based1 : Based X h1 := fun b o e => k1 _ _ (hb _ _ e)
  generalize henv : newEnv fd.scope s.heap.objs.size fd.globals [] (fd.qualname ++ ".<locals>.") (some fI) fd.code none fd.builtins = env
  have hloc : env.locals = s.heap.objs.size := by rw [← henv]; rfl
  have hscope : env.scope = fd.scope := by rw [← henv]; rfl
  have hek : env.scope.kind = .function := by rw [hscope]; exact hk
  have hglob : env.globals = mainGlobals := by rw [← henv]; exact Y.glob
  have hblt : env.builtins = builtinsNs := by rw [← henv]; exact Y.blt
  have kd : ∀ {y : Str} {k : NameKind}, fd.scope.names.lookup y = some k → env.kindOf y = some k := fun h => by show env.scope.names.lookup _ = _; rw [hscope]; exact h
  have load : ∀ {A' : Around} {E' : Value → Shared → Prop} {Q' : Value → Shared → Prop} {sx : Shared} {p : Pos} {y : Str} {u : Value}, sx.heap.Ns s.heap.objs.size (fun y => ([(("self" : Str), Value.ref x), ("message", v), ("spot", z)] : List (Str × Value)).reverse.lookup y) → fd.scope.names.lookup y = some .local →
      ([(("self" : Str), Value.ref x), ("message", v), ("spot", z)] : List (Str × Value)).reverse.lookup y = some u → (y == ("__debug__" : Str)) = false → Q' u sx → wpAny X.M A' (eval (.Name y p) env) Q' E' sx := fun hn hl hv hd hq =>
    wpAny_Name (wpAny_loadName_local hek (kd hl) (by rw [hloc]; exact hn) hv hq) hd
  refine E2A4 (Y.exc) fun mg mb hmg hmb hng hnb => ?_
  refine wpAny_execs_cons (wpAny_Expr_any ?_ (by unfold interactive; rw [hek]; rfl) rfl)
  rw [meth_tree rfl rfl hp (by show 2 < 20; decide)]
  refine wpAny_bind (Name_function_global hek (kd hl4) (loadGlobal_builtin (by rw [hglob]; exact hmg.keeps based1) hng (by rw [hblt]; exact hmb.keeps based1) hnb ?_) (by decide))
  refine wpAny_bind (wpAny_standAt (wpAny_bind (wpAny_holding ?_)))
  have F1 : Fr X.B s.heap.objs.size h1 (fun y => ([(("self" : Str), Value.ref x), ("message", v), ("spot", z)] : List (Str × Value)).reverse.lookup y) := ⟨hns1, based1, Nat.le_trans hxl (Nat.le_of_lt hxs)⟩
  refine method_type F1 Y.inB (by kernel_rfl) (by decide +kernel) Y.find (by decide +kernel) ?_
  refine callWith_any (X := X) (CallOK.builtin X _) p5 p5 env [] [.Name "self" p3, .Name "message" p4] rfl ?_
  show wpAny X.M _ (eval (.Name "self" p3) env >>= fun v => Pure.pure [v] >>= fun here => holding here (eval (.Name "message" p4) env >>= fun v => Pure.pure [v] >>= fun here => holding here (Pure.pure []) >>= fun r => Pure.pure (here ++ r)) >>= fun r => Pure.pure (here ++ r)) _ _ _
  refine wpAny_bind (load hns1 hl1 (by rfl) (by decide) ?_)
  refine wpAny_bind (wpAny_pure (wpAny_bind (wpAny_holding ?_)))
  refine wpAny_bind (load hns1 hl2 (by rfl) (by decide) ?_)
  refine wpAny_bind (wpAny_pure (wpAny_bind (wpAny_holding (wpAny_pure (wpAny_pure (wpAny_pure ⟨based1, ?_⟩))))))
  refine exc_base_init hcB (based1 _ _ hC) hx1 (by show 0 < 6; decide) ?_
  -- the record with its text
  generalize hT : h1.objs.size = T
  generalize h2def : (h1.push (tupO [v].toArray 0)).update x (Obj.mapFields (·.setIfInBounds 0 (.ref T))) = h2
  have hsb2 : Heap.SameBut x (h1.push (tupO [v].toArray 0)) h2 := by rw [← h2def]; exact Heap.SameBut.update ..
  have hx2 : h2.get? x = some { cls := .ref cG, data := .fields #[.ref T, .none, .none, .none, .bool false, .none] } := by
    rw [← h2def]; exact Heap.get?_update_self _ (Heap.get?_push_of_some _ hx1) rfl
  have k2 : ∀ b o, b ≠ x → h1.get? b = some o → h2.get? b = some o := fun b o n e => (hsb2.2 b n).trans (Heap.get?_push_of_some _ e)
  have z2 : h2.objs.size = h1.objs.size + 1 := by rw [hsb2.1, Heap.size_push]
  have xB : ∀ {b : Addr} {o : Obj}, X.B.get? b = some o → b ≠ x := fun e q => by subst q; exact absurd (Heap.lt_size e) (Nat.not_lt.mpr hxl)
  have based2 : Based X h2 := fun b o e => k2 b o (xB e) (based1 _ _ e)
  have hns2 : h2.Ns s.heap.objs.size (fun y => ([(("self" : Str), Value.ref x), ("message", v), ("spot", z)] : List (Str × Value)).reverse.lookup y) := (hns1.push _).sameBut hsb2 (Nat.ne_of_gt hxs)
  refine wpAny_execs_cons ?_
  rw [assign_tree _ _ _ _ (sole_plain _ _ _ _ rfl)]
  refine wpAny_bind (wpAny_standAt (wpAny_bind (load hns2 hl2 (by rfl) (by decide) ?_)))
  rw [show swappedStores [.Attribute (.Name "self" p7) "message" p8] (.Name "message" p9) env = pure none from rfl, pure_bind, stores_none _ _ _ rfl]
  show wpAny X.M _ ((holding [v] (eval (.Name "self" p7) env) >>= fun ov => standAt p8.atName >>= fun _ => holding [v, ov] (setAttr ov "message" v) >>= fun _ => release [v, ov] []) >>= fun _ => Pure.pure Flow.next) _ _ _
  refine wpAny_bind (wpAny_bind (wpAny_holding (load hns2 hl1 (by rfl) (by decide) (wpAny_bind (wpAny_standAt (wpAny_bind (wpAny_holding ?_)))))))
  refine exc_store1 (C := cG) (K := K) Y.cls (Y.inB.keeps based2) Y.sa Y.t16 hx2 ?_
  refine wpAny_release (wpAny_pure ?_)
  -- the record with its dict
  generalize hD : h2.objs.size = D
  have hDs : D = s.heap.objs.size + 1 + 1 := by rw [← hD, z2, z1]
  have hxD : x ≠ D := by rw [hDs]; exact Nat.ne_of_lt (Nat.lt_succ_of_lt (Nat.lt_succ_of_lt hxs))
  have hLD : s.heap.objs.size ≠ D := by rw [hDs]; exact Nat.ne_of_lt (Nat.lt_succ_of_lt (Nat.lt_succ_self _))
  have hx2' : (h2.push emptyDict).get? x = some { cls := .ref cG, data := .fields #[.ref T, .none, .none, .none, .bool false, .none] } := Heap.get?_push_of_some _ hx2
  suffices cont : ∀ (tt1 tk : Nat), wpAny X.M (A.deeper env) (execs [.Assign [.Attribute (.Name "self" p11) "spot" p12] (.Name "spot" p13) p14] env) (fun f s' => Rr (.ok (.ret (match f with | .ret v => v | _ => .none))) s') (fun e s' => wpAny X.M (A.deeper env) (leaving env e) (fun _ s'' => Rr (.error e) s'') (fun e' s'' => Rr (.error e') s'') s')
      { s with heap := ((h2.push emptyDict).update x fun o => { o with dict := some D }).update D (Obj.putName "message" (PyData.keyHash X.w.params "message") (.str "message" tt1) v), toks := tk } from cont _ _
  intro tt1 tk
  generalize h3def : (((h2.push emptyDict).update x fun o => { o with dict := some D }).update D (Obj.putName "message" (PyData.keyHash X.w.params "message") (.str "message" tt1) v)) = h3
  have hsbx : Heap.SameBut x (h2.push emptyDict) ((h2.push emptyDict).update x fun o => { o with dict := some D }) := Heap.SameBut.update ..
  have hsbD : Heap.SameBut D ((h2.push emptyDict).update x fun o => { o with dict := some D }) h3 := by rw [← h3def]; exact Heap.SameBut.update ..
  have hgD : ((h2.push emptyDict).update x fun o => { o with dict := some D }).get? D = some (dicO [] 0) := (hsbx.2 _ (Ne.symm hxD)).trans (by rw [← hD]; exact Heap.get?_push_size _ rfl)
  have hx3 : h3.get? x = some { cls := .ref cG, dict := some D, data := .fields #[.ref T, .none, .none, .none, .bool false, .none] } := (hsbD.2 _ hxD).trans (Heap.get?_update_self _ hx2' rfl)
  have eD3 := putName_dict "message" (PyData.keyHash X.w.params "message") (.str "message" tt1) v [] 0
  have hD3 : h3.get? D = some (dicO [⟨PyData.keyHash X.w.params "message", .str "message" tt1, v⟩] 1) := by
    rw [← h3def, Heap.get?_update_self _ hgD (by rw [show dicO [] 0 = dictOf [] 0 from rfl, eD3]; rfl), show dicO [] 0 = dictOf [] 0 from rfl, eD3]; rfl
  have k3 : ∀ b o, b ≠ x → h2.get? b = some o → h3.get? b = some o := fun b o n e => (hsbD.2 b (by rw [← hD]; exact Nat.ne_of_lt (Heap.lt_size e))).trans ((hsbx.2 b n).trans (Heap.get?_push_of_some _ e))
  have z3 : h3.objs.size = h2.objs.size + 1 := by rw [hsbD.1, hsbx.1, Heap.size_push]
  have based3 : Based X h3 := fun b o e => k3 b o (xB e) (based2 _ _ e)
  have hns3 : h3.Ns s.heap.objs.size (fun y => ([(("self" : Str), Value.ref x), ("message", v), ("spot", z)] : List (Str × Value)).reverse.lookup y) := ((hns2.push _).sameBut hsbx (Nat.ne_of_gt hxs)).sameBut hsbD hLD
  refine wpAny_execs_cons ?_
  rw [assign_tree _ _ _ _ (sole_plain _ _ _ _ rfl)]
  refine wpAny_bind (wpAny_standAt (wpAny_bind (load hns3 hl3 (by rfl) (by decide) ?_)))
  rw [show swappedStores [.Attribute (.Name "self" p11) "spot" p12] (.Name "spot" p13) env = pure none from rfl, pure_bind, stores_none _ _ _ rfl]
  show wpAny X.M _ ((holding [z] (eval (.Name "self" p11) env) >>= fun ov => standAt p12.atName >>= fun _ => holding [z, ov] (setAttr ov "spot" z) >>= fun _ => release [z, ov] []) >>= fun _ => Pure.pure Flow.next) _ _ _
  refine wpAny_bind (wpAny_bind (wpAny_holding (load hns3 hl1 (by rfl) (by decide) (wpAny_bind (wpAny_standAt (wpAny_bind (wpAny_holding ?_)))))))
  refine exc_store2 (C := cG) (K := K) Y.cls (Y.inB.keeps based3) Y.sa Y.t17 hx3 hD3 (by rfl) (by show 1 < 900; decide) ?_
  refine wpAny_release (wpAny_pure ?_)
  suffices cont2 : ∀ (tt2 tk' : Nat), wpAny X.M (A.deeper env) (execs [] env) (fun f s' => Rr (.ok (.ret (match f with | .ret v => v | _ => .none))) s') (fun e s' => wpAny X.M (A.deeper env) (leaving env e) (fun _ s'' => Rr (.error e) s'') (fun e' s'' => Rr (.error e') s'') s')
      { s with heap := h3.update D (Obj.putName "spot" (PyData.keyHash X.w.params "spot") (.str "spot" tt2) z), toks := tk' } from cont2 _ _
  intro tt2 tk'
  generalize h4def : (h3.update D (Obj.putName "spot" (PyData.keyHash X.w.params "spot") (.str "spot" tt2) z)) = h4
  have hsb4 : Heap.SameBut D h3 h4 := by rw [← h4def]; exact Heap.SameBut.update ..
  have eD4 := putName_dict "spot" (PyData.keyHash X.w.params "spot") (.str "spot" tt2) z [⟨PyData.keyHash X.w.params "message", .str "message" tt1, v⟩] 1
  have hD4 : h4.get? D = some (dicO [⟨PyData.keyHash X.w.params "message", .str "message" tt1, v⟩, ⟨PyData.keyHash X.w.params "spot", .str "spot" tt2, z⟩] 2) := by
    rw [← h4def, Heap.get?_update_self _ hD3 (by rw [show dicO [⟨PyData.keyHash X.w.params "message", .str "message" tt1, v⟩] 1 = dictOf [⟨PyData.keyHash X.w.params "message", .str "message" tt1, v⟩] 1 from rfl, eD4]; rfl), show dicO [⟨PyData.keyHash X.w.params "message", .str "message" tt1, v⟩] 1 = dictOf [⟨PyData.keyHash X.w.params "message", .str "message" tt1, v⟩] 1 from rfl, eD4]; rfl
  have hx4 : h4.get? x = some { cls := .ref cG, dict := some D, data := .fields #[.ref T, .none, .none, .none, .bool false, .none] } := (hsb4.2 _ hxD).trans hx3
  have kf : ∀ b o, b ≠ x → s.heap.get? b = some o → h4.get? b = some o := fun b o n e => by
    have e3 := k3 b o n (k2 b o n (k1 b o e))
    refine (hsb4.2 b fun q => ?_).trans e3
    have l := Heap.lt_size e
    rw [q, hDs] at l
    exact absurd l (Nat.not_lt.mpr (Nat.le_succ_of_le (Nat.le_succ _)))
  have zf : s.heap.objs.size ≤ h4.objs.size := by rw [hsb4.1, z3, z2, z1]; lia
  exact wpAny_execs_nil (h h4 _ tt1 tt2 T D kf zf (by rw [hDs]; exact Nat.le_succ_of_le (Nat.le_succ _)) hx4 hD4)
end
end Mine
end
section
namespace Mine
open PySem PySem.Calls PyProof.Rows PySem.W
noncomputable abbrev excM : List Value := [.ref 32, .type "Exception", .type "BaseException", .type "object"]
noncomputable abbrev excO (C : Addr) : Obj := excClassObj "GrammarFault" "GrammarFault" C 44 [.ref 32] excM true [] [] false none none (some (.ref 36)) none (some (.str "GrammarFault" 221)) (some (.str "GrammarFault" 229)) (some (.bool true)) "Exception.__new__"
theorem exc_of (C : Addr) : (Value.ref C :: excM).contains (.type "Exception") = true := by kernel_rfl
theorem exc_att (C : Addr) : (Value.ref C :: excM).contains (.type "AttributeError") = false := by kernel_rfl
theorem exc_nam (C : Addr) : (Value.ref C :: excM).contains (.type "NameError") = false := by kernel_rfl
theorem exc_bas (C : Addr) : (Value.ref C :: excM).contains (.type "BaseException") = true := by kernel_rfl
structure MakeOK (X : Wd) (cG : Addr) (K : Frag) : Prop where
  made : ∃ (fI : Addr) (fd : FuncData), InitOK X cG K fI fd ∧ findIn K (.ref cG) "__init__" = some (some (.ref fI)) ∧ typeIn K (.ref fI) = some (.type "function")
  obj : X.B.get? cG = some (excO cG)
  call : specialIn K (.ref cG) "__call__" = some (some (.builtin "type.__call__"))
  typ : instIn K (.ref cG) (.type "type") = some true
  keep : keepIn K (.ref cG) = true
section
variable {X : Wd} {cG : Addr} {T : Tab} {K : Frag} {fs : List Env} {A : Around} {s s' : Shared} {ρ ρ' : Rho} {env : Env} {ks : Ks} {loc : Loc} {H H' : Hp} {n m : Nat}
theorem make_exc (Y : NmOK X) (M : MakeOK X cG K) (hA : AOK (n + 1) A fs) (I : Inv X fs ρ H s) {msg : Str} {t : Tok} {sp : D} {u : Value} (hu : DRel X s.heap ρ sp u) {E : Value → Shared → Prop} {Q : Value → Shared → Prop}
    (h : ∀ e s', Inv X fs ρ H s' → ExcRel X cG s.heap.objs.size s'.heap ρ e msg sp → Step fs Wr0 s s' → (∃ x D T', e = .ref x ∧ s'.heap.get? x = some { cls := .ref cG, dict := some D, data := .fields #[.ref T', .none, .none, .none, .bool false, .none] }) → Q e s') :
    wpAny X.M A (call (.ref cG) [.str msg t, u] []) Q E s := by
  revert Y M hA I hu h; revert X cG K fs A s ρ H n msg t sp u E Q
  refine @(eps13 (P := ?P) (dX, dN, df, dG, dA, dS, dR, dH, dN, ds, (default : PySem.Tok), dd, dV) rfl ((?m : Pi13 ?P) _ _ _ _ _ _ _ _ _ _ _ _ _))
  intro X cG K fs A s ρ H n msg t sp u E Q Y M hA I hu h
  refine E2A3 M.made fun fI fd IO hfi hty => ?_
  have KI : K.In s.heap := IO.inB.keeps I.base
  refine wpAny_call ?_
  obtain ⟨hh, g, d, tk, os⟩ := s
  refine exc_make (I.base _ _ M.obj) (exc_of cG) (exc_att cG) (exc_nam cG) (looks_specialIn KI M.call) (looks_instIn KI M.typ) (looks_findIn KI hfi) (fun self => bind_fn KI self hty) (by rw [sizeLine_eq]; show 2 ≤ 16777216; decide) ?_
  have hz : ((hh.push { cls := .type "tuple", data := .seq [Value.str msg t, u].toArray }).push (excObj cG hh.objs.size)).objs.size = hh.objs.size + 2 := by rw [Heap.size_push, Heap.size_push]
  have kk : ∀ b o, hh.get? b = some o → ((hh.push { cls := .type "tuple", data := .seq [Value.str msg t, u].toArray }).push (excObj cG hh.objs.size)).get? b = some o := fun b o e => Heap.get?_push_of_some _ (Heap.get?_push_of_some _ e)
  have hx : ((hh.push { cls := .type "tuple", data := .seq [Value.str msg t, u].toArray }).push (excObj cG hh.objs.size)).get? (hh.objs.size + 1) = some (excObj cG hh.objs.size) := by
    have := Heap.get?_push_size (hh.push { cls := .type "tuple", data := .seq [Value.str msg t, u].toArray }) (o := excObj cG hh.objs.size) rfl
    rw [Heap.size_push] at this
    exact this
  have hB : X.B.objs.size ≤ hh.objs.size := I.sz
  refine init_walk IO (exc_of cG) (hA.make (C := cG) (ws := [.str msg t, u])).room (fun b o e => kk _ _ (I.base _ _ e)) M.obj (Nat.le_succ_of_le hB) hx fun hf tk' tt1 tt2 T' D' k z hD gx gD => ?_
  have kf : ∀ b o, hh.get? b = some o → hf.get? b = some o := fun b o e => k b o (Nat.ne_of_lt (Nat.lt_succ_of_lt (Heap.lt_size e))) (kk _ _ e)
  have zf : hh.objs.size ≤ hf.objs.size := Nat.le_trans (by rw [hz]; exact Nat.le_add_right _ _) z
  have S : Step fs Wr0 (⟨hh, g, d, tk, os⟩ : Shared) (⟨hf, g, d, tk', os⟩ : Shared) := Step.keeps fs Wr0 (⟨hh, g, d, tk, os⟩ : Shared) (h := hf) (k := tk') kf zf
  have notW : ∀ {b : Addr}, hh.objs.size ≤ b → ¬ Wr ρ b := fun l z => absurd (I.alive z) (Nat.not_lt.mpr l)
  rw [hz] at hD
  have hD' : hh.objs.size ≤ D' := Nat.le_trans (Nat.le_add_right _ _) hD
  have ne : hh.objs.size + 1 ≠ D' := Nat.ne_of_lt (Nat.lt_of_lt_of_le (Nat.lt_succ_self _) hD)
  have F : FRels X hf ρ [(16, .str msg), (17, sp)] [⟨PyData.keyHash X.w.params "message", .str "message" tt1, .str msg t⟩, ⟨PyData.keyHash X.w.params "spot", .str "spot" tt2, u⟩] :=
    ⟨_, _, tt1, rfl, by rw [Y.n16], by rw [Y.n16], ⟨t, rfl⟩, _, _, tt2, rfl, by rw [Y.n17], by rw [Y.n17], DRel.step I.stk S.of0 (Ext.refl _ _) hu, rfl⟩
  refine ⟨rfl, h (.ref (hh.objs.size + 1)) _ (I.step0 S) ⟨hh.objs.size + 1, D', _, #[], _, 2, rfl, Nat.le_succ _, hD', notW (Nat.le_succ _), notW hD', ne, gx, gD, F, by show 5 < 6; decide, .inl rfl⟩ S ⟨_, _, _, rfl, gx⟩⟩
theorem raise_made {C : Addr} {E : Value → Shared → Prop} {Q : Flow → Shared → Prop} {t : Sem Value}
    (hh : A.handled = none) (w : wpAny X.M A t (fun v s₁ => ∃ x D T', v = .ref x ∧ s₁.heap.get? C = some (excO C) ∧
      s₁.heap.get? x = some { cls := .ref C, dict := some D, data := .fields #[.ref T', .none, .none, .none, .bool false, .none] } ∧ E v s₁) E s) :
    wpAny X.M A (raiseStmt env (some t) none) Q E s := by
  unfold raiseStmt
  refine wpAny_bind (wpAny_mono w (fun v s₁ h₁ => ?_) fun _ _ x => x)
  refine E3A4 (h₁) fun x D T' hz3 hC he hE => ?_; subst hz3; try clear h₁
  obtain ⟨hp, g, d, tk, os⟩ := s₁
  repeat (first | with_reducible refine wpAny_loadPart_at he ?_ | with_reducible refine wpAny_loadPart_at hC ?_ | (with_reducible refine wpAny_isSubtype_exc hC ?_; rw [exc_bas]) | wp_step)
  exact wpAny_raiseNew_none hh hE
theorem CallOK.ofK {f : Value} (hK : K.In X.B) (e : keepIn K f = true) : CallOK X f := fun h hb => by
  refine E1A2 (looks_keep (M := X.M) e (hK.keeps hb)) fun k hk L => ?_
  exact ⟨k, hk.elim .inl fun z => .inr (.inl z), L⟩
theorem raise_snd (Fc : Facts X cG K T) (Gf : GfOK X cG K) (M : MakeOK X cG K) (hE : SndE X cG T n) : SndR X cG T n := by
  intro fs A env ks loc ρ H s m g ea eb p1 p2 pos hA hV a hg hsa hsb h10
  revert Fc Gf M hE hA hV a hg hsa hsb h10; revert X cG T K n fs A env ks loc ρ H s m g ea eb p1 p2 pos
  refine @(eps19 (P := ?P) (dX, dN, dT, df, dN, dG, dA, dE, dK, dL, dR, dH, dS, dN, ds, de, de, dp, dp) rfl ((?m : Pi19 ?P) _ _ _ _ _ _ _ _ _ _ _ _ _ _ _ _ _ _ _))
  intro X cG T K n fs A env ks loc ρ H s m g ea eb p1 p2 pos Fc Gf M hE hA hV a hg hsa hsb h10
  have hA' := hA.le (Nat.le_succ n)
  have eg := Fc.N.inj g 10 hg
  have hdg : (g == ("__debug__" : Str)) = false := by
    refine beq_eq_false_iff_ne.mpr fun q => ?_
    subst q
    have := Fc.N.dbg
    rw [hg] at this; cases this
  refine E1A2 (Gf.glob) fun mg hmg hmv => ?_
  have hst : [ea, eb].any isStar = false := by simp [hsa, hsb]
  have sp := spliced_snd (m := m) hE hA' hV p2 [ea, eb] hst a
  have W : ∀ (Q : Flow → Shared → Prop) (E : Value → Shared → Prop), wpAny X.M A (spliced (backTo p2 (starEach [ea, eb] env))) (fun vs s' => Based X s'.heap ∧ wpAny X.M A (call (.ref cG) vs []) (fun v s₁ => ∃ x D T', v = .ref x ∧ s₁.heap.get? cG = some (excO cG) ∧
      s₁.heap.get? x = some { cls := .ref cG, dict := some D, data := .fields #[.ref T', .none, .none, .none, .bool false, .none] } ∧ E v s₁) E s') E s → wpAny X.M A (PySem.exec (.Raise (some (.Call (.Name g p1) [ea, eb] [] p2)) none pos) env) Q E s := by
    intro Q E h
    rw [arm_exec_Raise]
    refine wpAny_bind (wpAny_standAt ?_)
    show wpAny X.M A (raiseStmt env (some (eval (.Call (.Name g p1) [ea, eb] [] p2) env >>= fun v => standAt pos >>= fun _ => Pure.pure v)) none) Q E s
    refine raise_made (C := cG) hA.handled ?_
    show wpAny X.M A ((eval (.Name g p1) env >>= fun f => callWith p2 f [] (backTo p2 (starEach [ea, eb] env)) []) >>= fun v => standAt pos >>= fun _ => Pure.pure v) _ _ s
    refine wpAny_bind (wpAny_bind (Name_function_global hV.kind (by rw [hV.kinds g 10 hg, h10]; rfl) (loadGlobal_global (by rw [hV.glob]; exact hmg.keeps a.inv.base) (eg ▸ hmv) ?_) hdg))
    refine callWith_any (X := X) (CallOK.ofK Fc.C.inB M.keep) p2 p2 env [] [ea, eb] hst (wpAny_mono h (fun vs s' ⟨hb, z⟩ => ⟨hb, wpAny_mono z (fun v s₁ z => ?_) fun _ _ z => z⟩) fun _ _ z => z)
    exact wpAny_bind (wpAny_standAt (wpAny_pure z))
  show JE X cG fs A _ _ _ _ ((evalE T n ks loc (erE X.f m ea) H).bind fun mv H => (evalE T n ks loc (erE X.f m eb) H).bind fun sv H => match mv, sv with
      | .d (.str m), .d sp => .exc m sp H
      | _, _ => .bad) s
  have sp' : JE X cG fs A (spliced (backTo p2 (starEach [ea, eb] env))) (VRels X) noOwn ρ ((evalE T n ks loc (erE X.f m ea) H).bind fun v H => ((evalE T n ks loc (erE X.f m eb) H).bind fun v' H => .ok [v'] H).bind fun vs H => .ok (v :: vs) H) s := sp
  clear sp
  refine JE.own ?_
  cases r1 : evalE T n ks loc (erE X.f m ea) H with
  | bad => trivial
  | exc m1 sp1 H1 =>
    rw [r1] at sp'
    exact W _ _ (wpAny_mono sp' (fun _ _ z => z.elim) fun _ _ z => z)
  | ok mv H1 =>
    rw [r1] at sp'
    have sp2 : JE X cG fs A (spliced (backTo p2 (starEach [ea, eb] env))) (VRels X) noOwn ρ (((evalE T n ks loc (erE X.f m eb) H1).bind fun v' H => .ok [v'] H).bind fun vs H => .ok (mv :: vs) H) s := sp'
    show JE X cG fs A _ _ _ _ ((evalE T n ks loc (erE X.f m eb) H1).bind fun sv H => match mv, sv with
      | .d (.str m), .d sp => .exc m sp H
      | _, _ => .bad) s
    cases r2 : evalE T n ks loc (erE X.f m eb) H1 with
    | bad => trivial
    | exc m1 sp1 H2 =>
      rw [r2] at sp2
      exact W _ _ (wpAny_mono sp2 (fun _ _ z => z.elim) fun _ _ z => z)
    | ok sv H2 =>
      rw [r2] at sp2
      show JE X cG fs A _ _ _ _ (match mv, sv with
        | .d (.str m), .d sp => Mine.R.exc m sp H2
        | _, _ => .bad) s
      split
      · rename_i msg spd
        refine W _ _ (wpAny_mono sp2 (fun vs s1 ⟨ρ1, x1, I1, R1, S1⟩ => ⟨I1.base, ?_⟩) fun _ _ z => z.elim)
        refine E2A3 (R1.two) fun w1 w2 hz2 h1 h2 => ?_; subst hz2
        refine E1A1 (VRel.str h1) fun t hz1 => ?_; subst hz1
        refine make_exc Fc.Y M hA I1 h2 fun e s2 I2 R2 S2 ⟨x, D, T', he, hx⟩ => ⟨x, D, T', he, I2.base _ _ M.obj, hx, ρ1, x1, I2, R2.down S1.size, S1.trans S2 fun _ _ z => z.elim⟩
      · trivial
end
end Mine
end
section
set_option maxHeartbeats 4000000
namespace Mine
open PySem PySem.Calls PyProof.Rows PySem.W
noncomputable def addrL : List (Nat × Addr) := [(1015, 62), (1023, 69), (1026, 76), (1025, 84), (1028, 91), (1030, 99), (1032, 106), (1033, 113), (35, 176), (39, 183), (42, 190), (45, 211), (46, 218), (47, 225), (48, 232), (53, 239), (49, 246), (50, 253), (61, 260), (51, 267), (52, 274), (54, 281), (68, 288), (69, 295), (70, 302),
  (72, 309), (78, 316), (82, 323), (84, 328), (86, 335), (88, 342), (90, 349), (92, 356), (94, 363), (97, 370), (104, 377), (107, 382), (108, 389), (109, 396), (111, 401), (113, 408), (114, 413), (115, 418), (116, 425)]
noncomputable def globL : List Value := [.builtin "len", .builtin "min", .builtin "max", .type "int", .type "tuple", .type "list", .builtin "repr", .type "str", .type "range", .ref 123]
noncomputable def gvalOf (g : Nat) : Value := (globL[g]?).getD (((addrL.lookup g).map .ref).getD .none)
theorem gval_mem {P : Value → Prop} (h : ∀ v ∈ globL, P v) (g : Nat) (hg : g < 10) : P (gvalOf g) := by
  have e : globL[g]? = some (globL[g]'hg) := List.getElem?_eq_getElem hg
  unfold gvalOf
  rw [e]
  exact h _ (List.getElem_mem hg)
noncomputable def funcV : (o : Option Obj) → Option { fd : FuncData // ∃ oc od sl, o = some ⟨oc, od, .func fd, sl⟩ }
  | some ⟨oc, od, .func fd, sl⟩ => some ⟨fd, oc, od, sl, rfl⟩
  | _ => none
noncomputable def fdOf (K : Frag) (a : Addr) : Option FuncData := (funcV (K.lookup a)).map Subtype.val
theorem fdOf_is {K : Frag} {a : Addr} {fd : FuncData} (h : fdOf K a = some fd) : ∃ oc od sl, K.lookup a = some ⟨oc, od, .func fd, sl⟩ := sub_is (o := funcV (K.lookup a)) h
theorem fdOf_get {K : Frag} {B : Heap} {a : Addr} {fd : FuncData} (inB : K.In B) (hfd : fdOf K a = some fd) : ∃ o, B.get? a = some o ∧ o.data = .func fd := by
  obtain ⟨oc, od, sl, ho⟩ := fdOf_is hfd
  exact ⟨_, inB _ _ ho, rfl⟩
noncomputable def stmtsV : (b : FuncBody) → Option { l : List Stmt // b = .stmts l }
  | .stmts l => some ⟨l, rfl⟩
  | _ => none
noncomputable def erFd (fd : FuncData) : Option (Ks × List St) := (stmtsV fd.body).bind fun b => (rScope Mine.idOf fd.scope).map fun ks => (ks, b.1.map (erS Mine.idOf ks 60))
noncomputable def erAt (K : Frag) (a : Addr) : Option (Ks × List St) := (fdOf K a).bind erFd
theorem any_ok {α : Type} {o : Option α} {p : α → Bool} (h : o.any p = true) : ∃ v, p v = true := by
  induction o with
  | none => cases h
  | some v => exact ⟨v, h⟩
theorem any_some {α : Type} {o : Option α} {p : α → Bool} (h : o.any p = true) : ∃ v, o = some v ∧ p v = true := by
  induction o with
  | none => cases h
  | some v => exact ⟨v, rfl, h⟩
noncomputable def refV : (v : Value) → Option { c : Addr // v = .ref c }
  | .ref c => some ⟨c, rfl⟩
  | _ => none
noncomputable def fieldsV : (o : Option Obj) → Option { x : Array Value // ∃ oc od sl, o = some ⟨oc, od, .fields x, sl⟩ }
  | some ⟨oc, od, .fields x, sl⟩ => some ⟨x, oc, od, sl, rfl⟩
  | _ => none
noncomputable def strV : (o : Option Value) → Option { q : Str // ∃ t, o = some (.str q t) }
  | some (.str q t) => some ⟨q, t, rfl⟩
  | _ => none
noncomputable def noneV : (v : Value) → Option { _u : Unit // v = .none }
  | .none => some ⟨(), rfl⟩
  | _ => none
noncomputable def tupV' : (o : Option Obj) → Option { x : Array Value // ∃ n, o = some (tupO x n) }
  | some ⟨.type s, .none, .seq x n, sl⟩ => if h : s = "tuple" ∧ sl.isEmpty = true then some ⟨x, n, by rw [h.1, Array.isEmpty_iff.mp h.2]⟩ else none
  | _ => none
noncomputable def soleV : (d : D) → (l : List Value) → Option { _u : Unit // (∃ i t, d = .int i ∧ l = [.int i t]) ∨ ∃ b, d = .bool b ∧ l = [.bool b] }
  | .int i, [.int j t] => if h : j = i then some ⟨(), .inl ⟨i, t, rfl, by rw [h]⟩⟩ else none
  | .bool b, [.bool j] => if h : j = b then some ⟨(), .inr ⟨b, rfl, by rw [h]⟩⟩ else none
  | _, _ => none
noncomputable def codeChk (K : Frag) (fd : FuncData) : Bool := (refV fd.code).any fun c => (fieldsV (K.lookup c.1)).any fun vs => (strV vs.1.toList[1]?).any fun q => q.1 == fd.qualname
theorem codeChk_ok {K : Frag} {B : Heap} {fd : FuncData} (inB : K.In B) (c4 : codeChk K fd = true) : B.CodeRec fd.code fd.qualname := by
  obtain ⟨⟨c, hc⟩, h⟩ := any_ok c4
  obtain ⟨⟨vs, oc, od, sl, ho⟩, h⟩ := any_ok h
  obtain ⟨⟨q, t, hq⟩, h⟩ := any_ok h
  exact ⟨c, _, vs, t, hc, inB _ _ ho, rfl, by rw [← eq_of_beq (show (q == fd.qualname) = true from h), ← Array.getElem?_toList]; exact hq⟩
noncomputable def dfChk (K : Frag) (fd : FuncData) (f : Fn) : Bool := match f.dflts with
  | [] => (noneV fd.defaults).isSome
  | [d] => (refV fd.defaults).any fun T => (tupV' (K.lookup T.1)).any fun x => (soleV d x.1.toList).isSome
  | _ :: _ :: _ => false
theorem dfChk_ok {X : Wd} {K : Frag} {fd : FuncData} {f : Fn} (inB : K.In X.B) (c5 : dfChk K fd f = true) :
    (fd.defaults = .none ∧ f.dflts = []) ∨ ∃ T its n, fd.defaults = .ref T ∧ X.B.get? T = some (tupO its n) ∧ DRels X X.B [] f.dflts its.toList := by
  unfold dfChk at c5
  generalize f.dflts = l at c5
  rcases l with _ | ⟨d, _ | ⟨d2, r⟩⟩
  · obtain ⟨v, _⟩ := Option.isSome_iff_exists.mp c5
    exact .inl ⟨v.2, rfl⟩
  · obtain ⟨⟨T, hT⟩, h⟩ := any_ok c5
    obtain ⟨⟨its, n, ho⟩, h⟩ := any_ok h
    obtain ⟨v, _⟩ := Option.isSome_iff_exists.mp h
    refine .inr ⟨T, its, n, hT, inB _ _ ho, ?_⟩
    rcases v.2 with ⟨i, t, e1, e2⟩ | ⟨b, e1, e2⟩
    · rw [e1]
      exact ⟨_, [], e2, ⟨t, rfl⟩, rfl⟩
    · rw [e1]
      exact ⟨_, [], e2, rfl, rfl⟩
  · cases c5
noncomputable def fdChk (K : Frag) (a : Addr) (f : Fn) : Bool := (fdOf K a).any fun fd =>
  ((fd.globals == mainGlobals && fd.builtins == builtinsNs) && (fd.closure.isEmpty && codeChk K fd)) && ((dfChk K fd f && decide f.params.Nodup) &&
      ((fd.params.posonlyargs.isEmpty && fd.params.vararg.isNone) && (fd.params.kwonlyargs.isEmpty && fd.params.kwarg.isNone))) && (((fd.params.args.map (·.arg) == f.params.map Mine.nm) &&
      f.ks.all (fun x => x.2 != .free)) && (f.params.all (fun p => isStore f.ks p && (Mine.idOf (Mine.nm p) == some p)) && decide ((cellsFrom 0 fd.scope.names []).map (·.1)).Nodup))
theorem args_eq {p : Arguments} (h : ((p.posonlyargs.isEmpty && p.vararg.isNone) && (p.kwonlyargs.isEmpty && p.kwarg.isNone)) = true) : p = ⟨[], p.args, none, [], p.kw_defaults, none, p.defaults⟩ := by
  have h1 := Bool.and_eq_true_iff.mp h
  have h2 := Bool.and_eq_true_iff.mp h1.1
  have h3 := Bool.and_eq_true_iff.mp h1.2
  cases p
  exact Arguments.mk.injEq .. ▸ ⟨List.isEmpty_iff.mp h2.1, rfl, Option.isNone_iff_eq_none.mp h2.2, List.isEmpty_iff.mp h3.1, rfl, Option.isNone_iff_eq_none.mp h3.2, rfl⟩
theorem fnOK_of {X : Wd} {K : Frag} {a : Addr} {f : Fn} (hX : X.nm = Mine.nm) (hf : X.f = Mine.idOf) (inB : K.In X.B) (hc : fdChk K a f = true) (he : erAt K a = some (f.ks, f.body)) : ∃ fd body m, FnOK X f a fd body m := by
  refine E1A2 (any_some hc) fun fd hfd hc => ?_
  have he : erFd fd = some (f.ks, f.body) := (congrArg (fun o => Option.bind o erFd) hfd).symm.trans he
  refine E1A2 (Option.bind_eq_some_iff.mp he) fun b hb he => ?_
  refine E1A2 (Option.map_eq_some_iff.mp he) fun ks hk he => ?_
  have e1 : ks = f.ks := congrArg Prod.fst he
  have e2 : b.1.map (erS Mine.idOf ks 60) = f.body := congrArg Prod.snd he
  subst e1
  have c := Bool.and_eq_true_iff.mp hc
  have ca := Bool.and_eq_true_iff.mp c.1
  have cb := Bool.and_eq_true_iff.mp c.2
  have c1 := Bool.and_eq_true_iff.mp ca.1
  have c12 := Bool.and_eq_true_iff.mp c1.1
  have c34 := Bool.and_eq_true_iff.mp c1.2
  have c2 := Bool.and_eq_true_iff.mp ca.2
  have c5 := Bool.and_eq_true_iff.mp c2.1
  have c3 := Bool.and_eq_true_iff.mp cb.1
  have c4 := Bool.and_eq_true_iff.mp cb.2
  refine ⟨fd, b.1, 60, fdOf_get inB hfd, b.2, codeChk_ok inB c34.2, beq_iff_eq.mp c12.1, beq_iff_eq.mp c12.2, List.isEmpty_iff.mp c34.1, hf ▸ hk, hf ▸ e2.symm, fun n q => ?_, of_decide_eq_true c5.2, fun p hp => ?_, of_decide_eq_true c4.2, ?_⟩
  · exact absurd (List.all_eq_true.mp c3.2 _ (lookup_mem q)) Bool.false_ne_true
  · have := Bool.and_eq_true_iff.mp (List.all_eq_true.mp c4.1 p hp)
    exact ⟨this.1, by rw [hf, hX]; exact beq_iff_eq.mp this.2⟩
  · exact fn_bind (as := fd.params.args) (kd := fd.params.kw_defaults) (ds := fd.params.defaults) (args_eq c2.2) (hX ▸ beq_iff_eq.mp c3.1) (hX ▸ List.Pairwise.map _ (fun a b h e => h (nm_inj _ _ e)) (of_decide_eq_true c5.2)) (dfChk_ok inB c5.1)
theorem mem_c {α : Type} {Q : α → Prop} {a : α} {l : List α} (h : Q a) (k : ∀ x ∈ l, Q x) : ∀ x ∈ a :: l, Q x := List.forall_mem_cons.mpr ⟨h, k⟩
noncomputable def strD : (d : D) → Option { q : Str // d = .str q }
  | .str q => some ⟨q, rfl⟩
  | _ => none
noncomputable def intOO : (o : Option (Option Value)) → Option { i : Int // ∃ t, o = some (some (.int i t)) }
  | some (some (.int i t)) => some ⟨i, t, rfl⟩
  | _ => none
noncomputable def refOO : (o : Option (Option Value)) → Option { c : Addr // o = some (some (.ref c)) }
  | some (some (.ref c)) => some ⟨c, rfl⟩
  | _ => none
noncomputable def strsAre : List D → List Value → Bool
  | [], vs => vs.isEmpty
  | d :: ds, vs => (strD d).any fun a => (strV vs.head?).any fun b => a.1 == b.1 && strsAre ds vs.tail
theorem strsAre_rel {X : Wd} {h : Heap} {ρ : Rho} {ds : List D} : ∀ {vs : List Value}, strsAre ds vs = true → DRels X h ρ ds vs := by
  induction ds with
  | nil => intro vs q; exact List.isEmpty_iff.mp q
  | cons d ds ih =>
    intro vs q
    obtain ⟨⟨a, ha⟩, q⟩ := any_ok q
    obtain ⟨⟨b, t, hb⟩, q⟩ := any_ok q
    obtain ⟨q1, q2⟩ := Bool.and_eq_true_iff.mp q
    cases vs with
    | nil => cases hb
    | cons v r =>
      have hb : v = .str b t := Option.some.inj hb
      exact ⟨v, r, rfl, by rw [ha, hb]; exact ⟨t, by rw [eq_of_beq (show (a == b) = true from q1)]⟩, ih q2⟩
noncomputable def tupIn (K : Frag) (a : Addr) (l : List D) : Bool := (tupV' (K.lookup a)).any fun x => strsAre l x.1.toList
theorem tupIn_rel {X : Wd} {K : Frag} {a : Addr} {l : List D} {h : Heap} (inB : K.In h) (q : tupIn K a l = true) : DRel X h [] (.tup l) (.ref a) := by
  obtain ⟨⟨its, n, ho⟩, q⟩ := any_ok q
  exact ⟨a, its, n, rfl, inB _ _ ho, (by rintro ⟨p, hp, _⟩; cases hp), strsAre_rel q⟩
noncomputable def globChk (K : Frag) : Bool := (fnL.filter (fun x => decide (x.1 < 1000))).all fun x => (refV (gvalOf x.1)).any fun b => (refOO (nsIn K mainGlobals (nm x.1))).any fun a => a.1 == b.1
noncomputable def attrP : (e : Expr) → Option { x : Str × Str × Pos // ∃ p, e = .Attribute (.Name x.1 p) x.2.1 x.2.2 }
  | .Attribute (.Name x p) m q => some ⟨(x, m, q), p, rfl⟩
  | _ => none
noncomputable def exprP : (s : Stmt) → Option { x : Expr × List Expr × Pos // ∃ p, s = .Expr (.Call x.1 x.2.1 [] x.2.2) p }
  | .Expr (.Call f l [] q) p => some ⟨(f, l, q), p, rfl⟩
  | _ => none
noncomputable def asgP : (s : Stmt) → Option { x : Expr × Expr // ∃ p, s = .Assign [x.1] x.2 p }
  | .Assign [t] v p => some ⟨(t, v), p, rfl⟩
  | _ => none
noncomputable def nameIs (e : Expr) (x : Str) : Bool := (nameP e).any fun v => v.1 == x
theorem nameIs_ok {e : Expr} {x : Str} (h : nameIs e x = true) : ∃ p, e = .Name x p := by
  obtain ⟨v, hv⟩ := any_ok h
  rw [← eq_of_beq hv]; exact v.2
noncomputable def asgIs (s : Stmt) (x : Str) : Bool := (asgP s).any fun v => nameIs v.1.2 x && (attrP v.1.1).any fun w => w.1.1 == ("self" : Str) && w.1.2.1 == x
theorem asgIs_ok {s : Stmt} {x : Str} (h : asgIs s x = true) : ∃ p1 p2 p3 p4, s = .Assign [.Attribute (.Name "self" p1) x p2] (.Name x p3) p4 :=
  (any_ok h).elim fun v h => have h := Bool.and_eq_true_iff.mp h
  (nameIs_ok h.1).elim fun p3 e3 => (any_ok h.2).elim fun w h => have h := Bool.and_eq_true_iff.mp h
  v.2.elim fun p4 e => w.2.elim fun p1 e1 => ⟨p1, _, p3, p4, by rw [e, e1, e3, eq_of_beq h.1, eq_of_beq h.2]⟩
noncomputable def twoV : (l : List Expr) → Option { x : Expr × Expr // l = [x.1, x.2] }
  | [a, b] => some ⟨(a, b), rfl⟩
  | _ => none
noncomputable def threeV : (l : List Stmt) → Option { x : Stmt × Stmt × Stmt // l = [x.1, x.2.1, x.2.2] }
  | [a, b, c] => some ⟨(a, b, c), rfl⟩
  | _ => none
noncomputable def callIs (s : Stmt) : Bool := (exprP s).any fun v => (twoV v.1.2.1).any fun u => nameIs u.1.1 "self" && (nameIs u.1.2 "message" && (attrP v.1.1).any fun w => w.1.1 == ("Exception" : Str) && (w.1.2.1 == ("__init__" : Str) && w.1.2.2.endLine == v.1.2.2.line))
theorem call_eq {f f' : Expr} {l l' : List Expr} {p q : Pos} (h : f = f') (k : l = l') : Stmt.Expr (.Call f l [] q) p = .Expr (.Call f' l' [] q) p := by rw [h, k]
theorem att_eq {x x' m m' : Str} {p q : Pos} (h : x = x') (k : m = m') : Expr.Attribute (.Name x p) m q = .Attribute (.Name x' p) m' q := by rw [h, k]
theorem two_eq {a a' b b' : Expr} (h : a = a') (k : b = b') : [a, b] = [a', b'] := by rw [h, k]
theorem callIs_ok {s : Stmt} (h : callIs s = true) : ∃ p1 p2 p3 p4 p5 p6, s = .Expr (.Call (.Attribute (.Name "Exception" p1) "__init__" p2) [.Name "self" p3, .Name "message" p4] [] p5) p6 ∧ (p2.endLine == p5.line) = true :=
  (any_ok h).elim fun v h => (any_ok h).elim fun u h => have h := Bool.and_eq_true_iff.mp h
  (nameIs_ok h.1).elim fun p3 e3 => have h := Bool.and_eq_true_iff.mp h.2
  (nameIs_ok h.1).elim fun p4 e4 => (any_ok h.2).elim fun w h => have h := Bool.and_eq_true_iff.mp h; have k := Bool.and_eq_true_iff.mp h.2
  v.2.elim fun p6 e => w.2.elim fun p1 e1 => ⟨p1, w.1.2.2, p3, p4, v.1.2.2, p6, e.trans (call_eq (e1.trans (att_eq (eq_of_beq h.1) (eq_of_beq k.1))) (u.2.trans (two_eq e3 e4))), k.2⟩
noncomputable def initBody (fd : FuncData) : Bool := (stmtsV fd.body).any fun b => (threeV b.1).any fun x => callIs x.1.1 && (asgIs x.1.2.1 "message" && asgIs x.1.2.2 "spot")
theorem initBody_ok {fd : FuncData} (h : initBody fd = true) : ∃ (p1 p2 p3 p4 p5 p6 p7 p8 p9 p10 p11 p12 p13 p14 : Pos), fd.body = .stmts [.Expr (.Call (.Attribute (.Name "Exception" p1) "__init__" p2) [.Name "self" p3, .Name "message" p4] [] p5) p6,
    .Assign [.Attribute (.Name "self" p7) "message" p8] (.Name "message" p9) p10, .Assign [.Attribute (.Name "self" p11) "spot" p12] (.Name "spot" p13) p14] ∧ (p2.endLine == p5.line) = true := by
  refine (any_ok h).elim fun b h => (any_ok h).elim fun x h => have h := Bool.and_eq_true_iff.mp h; have k := Bool.and_eq_true_iff.mp h.2; ?_
  obtain ⟨p1, p2, p3, p4, p5, p6, e1, hq⟩ := callIs_ok h.1
  obtain ⟨p7, p8, p9, p10, e2⟩ := asgIs_ok k.1
  obtain ⟨p11, p12, p13, p14, e3⟩ := asgIs_ok k.2
  exact ⟨p1, p2, p3, p4, p5, p6, p7, p8, p9, p10, p11, p12, p13, p14, by rw [b.2, x.2, e1, e2, e3], hq⟩
noncomputable def seqV : (o : Option Obj) → Option { x : Array Value // ∃ oc od n sl, o = some ⟨oc, od, .seq x n, sl⟩ }
  | some ⟨oc, od, .seq x n, sl⟩ => some ⟨x, oc, od, n, sl, rfl⟩
  | _ => none
noncomputable def initScope (sc : Scope) : Bool := ((sc.kind == .function && !sc.isCoroutine) && (!sc.isGenerator && sc.names.all fun x => x.2 != .cell)) && ((sc.names.lookup ("self" : Str) == some .local && sc.names.lookup ("message" : Str) == some .local) && (sc.names.lookup ("spot" : Str) == some .local && sc.names.lookup ("Exception" : Str) == some .globalImplicit))
noncomputable def initChk (K : Frag) (a : Addr) : Bool := (fdOf K a).any fun fd => ((fd.globals == mainGlobals && fd.builtins == builtinsNs) && (fd.closure.isEmpty && codeChk K fd)) && ((initBody fd && (fd.params.args.map (·.arg) == [("self" : Str), "message", "spot"])) &&
      ((fd.params.posonlyargs.isEmpty && fd.params.vararg.isNone) && (fd.params.kwonlyargs.isEmpty && fd.params.kwarg.isNone))) && (initScope fd.scope && (refV fd.defaults).any fun T => (seqV (K.lookup T.1)).isSome)
noncomputable def adr (g : Nat) : Addr := ((refV (gvalOf g)).map Subtype.val).getD 0
noncomputable def fnChk (K : Frag) (p : Nat × Fn) : Bool := (refV (gvalOf p.1)).any fun a => fdChk K a.1 p.2
noncomputable def findE (K : Frag) (a : Addr) (x : Str) (v : Option Value) : Bool := findIn K (.ref a) x == some v
noncomputable def methChk (K : Frag) (p : Nat × Nat) : Bool := (refV (gvalOf p.2)).any fun a => findE K 123 (nm p.1) (some (.ref a.1)) && (isFn K (.ref a.1) && (tab.fn p.2).isSome)
noncomputable def gChk (K : Frag) (k : Nat) : Bool := (nsIn K mainGlobals (nm k) == some none) && (nm k != "__name__" && bootBuiltins (nm k) == some (gvalOf k))
noncomputable def lookL (K : Frag) : List Bool := [fnL.all (fnChk K), methL.all (methChk K), (List.range 9).all (gChk K), globChk K, initChk K 29,
  plainGet K 123 (nm 0), hasDictIn K 123, attrIds.all fun a => findE K 123 (nm a) none, findE K 123 "__setattr__" (some (.builtin "object.__setattr__")), plainOver K 123, makesIn K 123,
  keepIn K (.ref 123), tupIn K 48 (strsD keywordsL), tupIn K 128 (strsD pathWordsL), nsIn K mainGlobals (nm 9) == some (some (.ref 123)), nsIn K mainGlobals (nm 34) == some (some (.ref 48)),
  nsIn K mainGlobals (nm 44) == some (some (.ref 128)), (intOO (nsIn K mainGlobals (nm 24))).any fun x => x.1 == 60, nsIn K mainGlobals (nm 10) == some (some (.ref 45)),
  findE K 45 "__getattribute__" (some (.builtin "BaseException.__getattribute__")), findE K 45 "__getattr__" none, subIn K (.ref 45) (.type "BaseException") == some true, hasDictIn K 45,
  findE K 45 (nm 16) none, findE K 45 (nm 17) none, exmOne K (.ref 45) (.ref 45) == some true, specialIn K (.ref 45) "__call__" == some (some (.builtin "type.__call__")),
  instIn K (.ref 45) (.type "type") == some true, keepIn K (.ref 45), findE K 45 "__init__" (some (.ref 29)), typeIn K (.ref 29) == some (.type "function"), nsIn K mainGlobals "Exception" == some none,
  findE K 45 "__setattr__" (some (.builtin "object.__setattr__"))]
noncomputable def look (K : Frag) : List (Option (Ks × List St)) × Option Obj × Option CFound × List Bool :=
  (fnL.map fun p => erAt K (adr p.1), K.lookup 45, findCls K (.type "Exception") (.type "type") "__init__", lookL K)
noncomputable def lookV : List (Option (Ks × List St)) × Option Obj × Option CFound × List Bool :=
  (fnL.map fun p => some (p.2.ks, p.2.body), some (excO 45), some (.val (.builtin "Exception.__init__")), List.replicate 33 true)
noncomputable def Good (K : Frag) : Prop := look K = lookV
theorem Good.at {K : Frag} (h : Good K) (i : Nat) {b : Bool} (hi : (List.replicate 33 true)[i]? = some true) (e : (lookL K)[i]? = some b) : b = true := by
  have h : lookL K = List.replicate 33 true := congrArg (fun l => l.2.2.2) h
  rw [h, hi] at e
  exact (Option.some.inj e).symm
end Mine
end
section
open PySem PySem.W PyProof.Rows
namespace Mine
noncomputable def fragOf (s : Shared) : Frag := ((addrL.flatMap fun p => [p.2, p.2 - 1]) ++ List.range 173).filterMap fun a => (s.heap.get? a).map (a, ·)
theorem frag_in (s : Shared) : (fragOf s).In s.heap := by
  intro a o h
  obtain ⟨b, _, hb⟩ := List.mem_filterMap.mp (lookup_mem h)
  obtain ⟨o', ho, e⟩ := Option.map_eq_some_iff.mp hb
  injection e with e1 e2
  rw [← e1, ho, e2]
noncomputable def hd.says (h : Heap) : Prop := ∃ K, Good K ∧ K.In h
noncomputable def lookHook : Hook := ⟨_, fun s => look (fragOf s), fun _ => lookV, fun _ => hd.says, fun _ s e => ⟨fragOf s, e, frag_in s⟩, fun _ _ _ x k => x.elim fun K y => ⟨K, y.1, y.2.keeps k⟩⟩
theorem hd.look1 (w : World) (os : OsState) : (hd.T w os).map (fun s => fnL.map fun p => erAt (fragOf s) (adr p.1)) = some (fnL.map fun p => some (p.2.ks, p.2.body)) := by
  unfold hd.T topFrom; rw [PySem.W.Fast.te14082659384304107361, PySem.W.Fast.te14364793385576792824]; kernel_rfl
theorem hd.look2 (w : World) (os : OsState) : (hd.T w os).map (fun s => ((fragOf s).lookup 45, findCls (fragOf s) (.type "Exception") (.type "type") "__init__", lookL (fragOf s))) = some (some (excO 45), some (.val (.builtin "Exception.__init__")), List.replicate 33 true) := by
  unfold hd.T topFrom; rw [PySem.W.Fast.te14082659384304107361, PySem.W.Fast.te14364793385576792824]; kernel_rfl
theorem hd.look (w : World) (os : OsState) : (hd.T w os).map (fun s => look (fragOf s)) = some lookV := pair_parts (hd.look1 w os) (hd.look2 w os)
set_option maxHeartbeats 8000000 in
noncomputable def hd.open := fun hw hc => show PySem.Challenge.rw_xw0169_01.row.Holds from PySem.W.holds_open (q := Mine.hd.view) (loose := [PySem.Str.ofString "LendError", PySem.Str.ofString "read_spath"]) (Xt := (fun s => xlAt Mine.hd.view [] s && recOk (RowW.records PySem.Challenge.rw_xw0169_01.row.toRowW) s))
    (XP := XL Mine.hd.view []) (Yf := Hook.obs lookHook) (Ya := Hook.val lookHook) (YP := Hook.says lookHook) (N := 5014) (LeftO.of_boot (by kernel_rfl) (by decide) fence_same hd.seen hd.look) (Hook.of lookHook) (Hook.keeps lookHook) (fun s e => xl_of s (Bool.and_eq_true_iff.mp e).1) XL.keeps (by rfl) (by rfl) (by rfl)
    (fun s e => recFacts_of (Bool.and_eq_true_iff.mp e).2) (by rfl) (row_said Mine.hd.said) (by decide +kernel) ⟨rfl, rfl, rfl, rfl, rfl, by decide +kernel⟩ hw hc
local macro_rules | `(tactic| o_law) => `(tactic| refine holds_law Mine.hd.said fun _ => ?_)
local macro_rules | `(tactic| k_head) => `(tactic| refine Mine.hd.open ?hw ?hc)
set_option maxHeartbeats 8000000 in
open_top hd for PySem.Challenge.rw_xw0169_01
end Mine
end
section
set_option maxHeartbeats 4000000
namespace Mine
open PySem PySem.Calls PyProof.Rows PySem.W
theorem adr_is {g : Nat} {a : Addr} (h : gvalOf g = .ref a) : adr g = a := by
  unfold adr
  generalize gvalOf g = v at h ⊢
  subst h
  rfl
section
variable {K : Frag} (h : Good K)
include h
theorem fnK (p : Nat × Fn) (hp : p ∈ fnL) : ∃ a, gvalOf p.1 = .ref a ∧ fdChk K a p.2 = true ∧ erAt K a = some (p.2.ks, p.2.body) := by
  obtain ⟨⟨a, ha⟩, q⟩ := any_ok (List.all_eq_true.mp (h.at 0 rfl rfl) p hp)
  have e : (fnL.map fun p => erAt K (adr p.1)) = fnL.map fun p => some (p.2.ks, p.2.body) := congrArg Prod.fst h
  have e := List.map_inj_left.mp e p hp
  rw [adr_is ha] at e
  exact ⟨a, ha, q, e⟩
theorem exmO : K.lookup 45 = some (excO 45) := congrArg (fun l => l.2.1) h
theorem exmI : findCls K (.type "Exception") (.type "type") "__init__" = some (.val (.builtin "Exception.__init__")) := congrArg (fun l => l.2.2.1) h
theorem fndK (i : Nat) {C : Addr} {x : Str} {v : Option Value} (hi : (List.replicate 33 true)[i]? = some true) (e : (lookL K)[i]? = some (findE K C x v)) : findIn K (.ref C) x = some v := eq_of_beq (h.at i hi e)
theorem methK (m f : Nat) (hm : methL.lookup m = some f) : ∃ fa, gvalOf f = .ref fa ∧ findIn K (.ref 123) (nm m) = some (some (.ref fa)) ∧ isFn K (.ref fa) = true ∧ (tab.fn f).isSome = true := by
  obtain ⟨⟨a, ha⟩, q⟩ := any_ok (List.all_eq_true.mp (h.at 1 rfl rfl) (m, f) (lookup_mem hm))
  obtain ⟨q1, q2⟩ := Bool.and_eq_true_iff.mp q
  obtain ⟨q2, q3⟩ := Bool.and_eq_true_iff.mp q2
  exact ⟨a, ha, eq_of_beq q1, q2, q3⟩
end
theorem fns_ok {X : Wd} (hX : X.nm = Mine.nm) (hf : X.f = Mine.idOf) (hg : X.gval = gvalOf) {K : Frag} (hK : Good K) (inB : K.In X.B) : FnsOK X tab := by
  intro g f h
  obtain ⟨a, e1, e2, e3⟩ := fnK hK (g, f) (lookup_mem h)
  obtain ⟨fd, b, m, z⟩ := fnOK_of hX hf inB e2 e3
  exact ⟨a, fd, b, m, by rw [hg]; exact e1, z⟩
noncomputable def theX (w : World) (B : Heap) : Wd := { prog := PySem.Challenge.pw_xw0169_01, w, B, gval := gvalOf, cW := 123, nm := Mine.nm, f := Mine.idOf }
theorem names_ok (w : World) (B : Heap) : NamesOK (theX w B) := ⟨fun x n h => idOf_eq h, by kernel_rfl, nm_inj⟩
theorem gv_ok (w : World) (B : Heap) : GvOK (theX w B) := ⟨rfl, rfl, rfl, rfl, rfl, rfl, rfl, rfl, rfl⟩
theorem nm_ok (w : World) (B : Heap) : NmOK (theX w B) where
  n11 := by kernel_rfl
  n12 := by kernel_rfl
  n13 := by kernel_rfl
  n14 := by kernel_rfl
  n15 := by kernel_rfl
  n16 := by kernel_rfl
  n17 := by kernel_rfl
  n18 := by kernel_rfl
  n10 := by kernel_rfl
theorem handed_ok : ∀ g, handedIn (gvalOf g) = true := by
  intro g
  by_cases hg : g < 10
  · exact gval_mem (P := fun v => handedIn v = true) (List.all_eq_true.mp (by decide +kernel : globL.all handedIn = true)) g hg
  · unfold gvalOf
    rw [List.getElem?_eq_none (show globL.length ≤ g from Nat.le_of_not_lt hg)]
    cases addrL.lookup g <;> rfl
theorem keep_fd {K : Frag} {a : Addr} {f : Fn} (h : fdChk K a f = true) : keepIn K (.ref a) = true := by
  unfold fdChk at h
  cases hfd : fdOf K a with
  | none => rw [hfd] at h; cases h
  | some fd =>
    obtain ⟨oc, od, sl, ho⟩ := fdOf_is hfd
    unfold keepIn
    dsimp only
    rw [ho]
theorem all_not {α : Type} {Q : α → Prop} : ∀ x ∈ ([] : List α), Q x := fun _ h => nomatch h
section
variable {w : World} {B : Heap} {K : Frag} (hK : Good K) (inB : K.In B)
include hK inB
theorem cls_ok : ClsOK (theX w B) K tab where
  inB := inB
  ga := hK.at 5 rfl rfl
  hd := hK.at 6 rfl rfl
  attr := fun a ha => eq_of_beq (List.all_eq_true.mp (hK.at 7 rfl rfl) a (List.contains_iff_mem.mp ha))
  meth := fun m f h => (methK hK m f h).elim fun fa z => ⟨fa, z.1, z.2.1, z.2.2.1⟩
  sa := fndK hK 8 rfl rfl
  po := hK.at 9 rfl rfl
  hv := handed_ok
  mkC := hK.at 10 rfl rfl
  g9 := rfl
theorem call_ok : ∀ g, (decide (g ≤ 9) || (tab.fn g).isSome) = true → CallOK (theX w B) ((theX w B).gval g) := by
  intro g h
  rw [Bool.or_eq_true] at h
  rcases h with h | h
  · have h := of_decide_eq_true h
    exact gval_mem (P := CallOK (theX w B)) (mem_c (CallOK.builtin _ _) <| mem_c (CallOK.builtin _ _) <| mem_c (CallOK.builtin _ _) <| mem_c (CallOK.type _ _) <| mem_c (CallOK.type _ _) <|
      mem_c (CallOK.type _ _) <| mem_c (CallOK.builtin _ _) <| mem_c (CallOK.type _ _) <| mem_c (CallOK.type _ _) <| mem_c (CallOK.ofK (X := theX w B) inB (hK.at 11 rfl rfl)) all_not) g (Nat.lt_succ_of_le h)
  · obtain ⟨f, hf⟩ := Option.isSome_iff_exists.mp h
    obtain ⟨a, e1, e2, e3⟩ := fnK hK (g, f) (lookup_mem hf)
    show CallOK (theX w B) (gvalOf g)
    rw [e1]
    exact CallOK.ofK (X := theX w B) inB (keep_fd e2)
theorem callM_ok : ∀ m f, tab.meth m = some f → CallOK (theX w B) ((theX w B).gval f) := fun m f h =>
  call_ok hK inB f (Bool.or_eq_true_iff.mpr (.inr ((methK hK m f h).elim fun _ z => z.2.2.2)))
theorem gf_ok {mg : Str → Option Value} (hmg : B.Ns mainGlobals mg) : GfOK (theX w B) 45 K where
  glob := ⟨mg, hmg, mg_of inB hmg (eq_of_beq (hK.at 18 rfl rfl))⟩
  ga := fndK hK 19 rfl rfl
  gk := fndK hK 20 rfl rfl
  sb := eq_of_beq (hK.at 21 rfl rfl)
  hd := hK.at 22 rfl rfl
  a16 := fndK hK 23 rfl rfl
  a17 := fndK hK 24 rfl rfl
  hit := eq_of_beq (hK.at 25 rfl rfl)
theorem glob_one {mg mb : Str → Option Value} (hmg : B.Ns mainGlobals mg) (hb : ∀ x : Str, x ≠ "__name__" → mb x = bootBuiltins x) (k : Nat) (hk : k < 9) {v : Value} (e : gvalOf k = v) :
    ∃ val, (mg (nm k) = some val ∨ (mg (nm k) = Option.none ∧ mb (nm k) = some val)) ∧ DRel (theX w B) B [] (.gv k) val := by
  have q := List.all_eq_true.mp (hK.at 2 rfl rfl) k (List.mem_range.mpr hk)
  obtain ⟨q1, q2⟩ := Bool.and_eq_true_iff.mp q
  obtain ⟨q2, q3⟩ := Bool.and_eq_true_iff.mp q2
  exact ⟨gvalOf k, .inr ⟨mg_none_of inB hmg (eq_of_beq q1), (hb _ (bne_iff_ne.mp q2)).trans (eq_of_beq q3)⟩, rfl⟩
end
end Mine
end
section
set_option maxHeartbeats 4000000
namespace Mine
open PySem PySem.Calls PyProof.Rows PySem.W
theorem excC {K : Frag} (hK : Good K) : ExcCls K 45 where
  cls := ⟨_, (by unfold clsIn; rw [exmO hK]), rfl, by decide +kernel, fun self => by rw [refuseLoop_ref, refuseLoop_ref]; exact PySem.F.store_Exception.passes self, rfl⟩
theorem takr {K : Frag} {x : Str} (h : findIn K (.ref 45) x = some none) : takerIn K 45 x = some none := by
  unfold takerIn
  rw [h]
  rfl
section
variable {w : World} {B : Heap} {K : Frag} (hK : Good K) (inB : K.In B)
include hK inB
theorem glob_ok {mg mb : Str → Option Value} (hmg : B.Ns mainGlobals mg) (hmb : B.Ns builtinsNs mb) (hb : ∀ x : Str, x ≠ "__name__" → mb x = bootBuiltins x) : GlobOK (theX w B) tab where
  all := ⟨mg, mb, hmg, hmb, fun n d h => by
    have h := lookup_mem (show constL.lookup n = some d from h)
    have one : ∀ k, k < 9 → (n, d) = (k, D.gv k) → ∃ val, (mg ((theX w B).nm n) = some val ∨ (mg ((theX w B).nm n) = Option.none ∧ mb ((theX w B).nm n) = some val)) ∧ DRel (theX w B) (theX w B).B [] d val := fun k hk e => by
      injection e with e1 e2
      subst e1 e2
      exact glob_one (w := w) hK inB hmg hb n hk rfl
    have two : ∀ (k : Nat) (c : D) (v : Value), mg (nm k) = some v → DRel (theX w B) B [] c v → (n, d) = (k, c) → ∃ val, (mg ((theX w B).nm n) = some val ∨ (mg ((theX w B).nm n) = Option.none ∧ mb ((theX w B).nm n) = some val)) ∧ DRel (theX w B) (theX w B).B [] d val := fun k c v q r e => by
      injection e with e1 e2
      subst e1 e2
      exact ⟨v, .inl q, r⟩
    rcases List.mem_append.mp h with h | h
    · simp only [List.mem_cons, List.not_mem_nil, or_false] at h
      rcases h with h | h | h | h | h | h | h | h | h | h | h | h | h
      · exact one _ (by decide) h
      · exact one _ (by decide) h
      · exact one _ (by decide) h
      · exact one _ (by decide) h
      · exact one _ (by decide) h
      · exact one _ (by decide) h
      · exact one _ (by decide) h
      · exact one _ (by decide) h
      · exact one _ (by decide) h
      · exact two 9 (.gv 9) (.ref 123) (mg_of inB hmg (eq_of_beq (hK.at 14 rfl rfl))) rfl h
      · exact two _ _ _ (mg_of inB hmg (eq_of_beq (hK.at 15 rfl rfl))) (tupIn_rel inB (hK.at 12 rfl rfl)) h
      · obtain ⟨⟨i, t, ht⟩, q⟩ := any_ok (hK.at 17 rfl rfl)
        exact two 24 (.int 60) (.int i t) (mg_of inB hmg ht) ⟨t, by rw [eq_of_beq (show (i == 60) = true from q)]⟩ h
      · exact two _ _ _ (mg_of inB hmg (eq_of_beq (hK.at 16 rfl rfl))) (tupIn_rel inB (hK.at 13 rfl rfl)) h
    · obtain ⟨x, hx, e⟩ := List.mem_map.mp h
      obtain ⟨⟨b, hb⟩, q⟩ := any_ok (List.all_eq_true.mp (hK.at 3 rfl rfl) _ hx)
      obtain ⟨⟨a, ha⟩, q⟩ := any_ok q
      exact two x.1 (.gv x.1) (.ref a) (mg_of inB hmg ha) (show Value.ref a = gvalOf x.1 by rw [hb, eq_of_beq (show (a == b) = true from q)]) e.symm⟩
theorem make_ok {mg mb : Str → Option Value} (hmg : B.Ns mainGlobals mg) (hmb : B.Ns builtinsNs mb) (hb : ∀ x : Str, x ≠ "__name__" → mb x = bootBuiltins x) (hl : B.NoLimit) : MakeOK (theX w B) 45 K where
  made := by
    refine E1A2 (any_some (hK.at 4 rfl rfl)) fun fd hfd hc => ?_
    have c := Bool.and_eq_true_iff.mp hc
    have ca := Bool.and_eq_true_iff.mp c.1
    have cb := Bool.and_eq_true_iff.mp c.2
    have c1 := Bool.and_eq_true_iff.mp ca.1
    have c12 := Bool.and_eq_true_iff.mp c1.1
    have c34 := Bool.and_eq_true_iff.mp c1.2
    have c2 := Bool.and_eq_true_iff.mp ca.2
    have c56 := Bool.and_eq_true_iff.mp c2.1
    have s0 := Bool.and_eq_true_iff.mp cb.1
    have sa := Bool.and_eq_true_iff.mp s0.1
    have sb := Bool.and_eq_true_iff.mp s0.2
    have s12 := Bool.and_eq_true_iff.mp sa.1
    have s34 := Bool.and_eq_true_iff.mp sa.2
    have s56 := Bool.and_eq_true_iff.mp sb.1
    have s78 := Bool.and_eq_true_iff.mp sb.2
    refine ⟨29, fd, ?_, fndK hK 29 rfl rfl, eq_of_beq (hK.at 30 rfl rfl)⟩
    refine ⟨fdOf_get inB hfd, codeChk_ok inB c34.2, beq_iff_eq.mp c12.1, beq_iff_eq.mp c12.2, List.isEmpty_iff.mp c34.1, ⟨beq_iff_eq.mp s12.1, by simpa using s12.2, by simpa using s34.1, fun x hx q => ?_, beq_iff_eq.mp s56.1, beq_iff_eq.mp s56.2, beq_iff_eq.mp s78.1, beq_iff_eq.mp s78.2⟩,
      initBody_ok c56.1, ?_, ⟨mg, mb, hmg, hmb, mg_none_of inB hmg (eq_of_beq (hK.at 31 rfl rfl)), (hb _ (by decide +kernel)).trans (by kernel_rfl)⟩, inB, exmI hK, excC hK, fndK hK 32 rfl rfl, takr (fndK hK 23 rfl rfl), takr (fndK hK 24 rfl rfl), hl⟩
    · exact absurd q (bne_iff_ne.mp (List.all_eq_true.mp s34.2 _ hx))
    · intro s u v z hbb M A E Q hq
      have hn := beq_iff_eq.mp c56.2
      refine E1A2 (bind_exact (fd := fd) (args_eq c2.2) (by rw [hn]; decide +kernel) (vs := [u, v, z]) (by have := congrArg List.length hn; rw [List.length_map] at this; exact this.symm)) fun kk e1 e2 => ?_
      rw [e1]
      refine (any_ok cb.2).elim fun T h => (Option.isSome_iff_exists.mp h).elim fun x _ => x.2.elim fun oc h => h.elim fun od h => h.elim fun n h => h.elim fun sl ho => ?_
      rw [T.2]
      refine wpAny_bind (wpAny_seqItems (hbb _ _ (inB _ _ ho)) rfl ?_)
      rw [e2, hn]; exact wpAny_pure hq
  obj := inB _ _ (exmO hK)
  call := eq_of_beq (hK.at 26 rfl rfl)
  typ := eq_of_beq (hK.at 27 rfl rfl)
  keep := hK.at 28 rfl rfl
theorem facts_ok {mg mb : Str → Option Value} (hmg : B.Ns mainGlobals mg) (hmb : B.Ns builtinsNs mb) (hb : ∀ x : Str, x ≠ "__name__" → mb x = bootBuiltins x) : Facts (theX w B) 45 K tab where
  N := names_ok w B
  G := glob_ok hK inB hmg hmb hb
  V := gv_ok w B
  Y := nm_ok w B
  C := cls_ok hK inB
  call := call_ok hK inB
  callM := callM_ok hK inB
theorem all_snd {mg mb : Str → Option Value} (hmg : B.Ns mainGlobals mg) (hmb : B.Ns builtinsNs mb) (hb : ∀ x : Str, x ≠ "__name__" → mb x = bootBuiltins x) (hl : B.NoLimit) (n : Nat) :
    SndE (theX w B) 45 tab n ∧ SndT (theX w B) 45 tab n ∧ SndM (theX w B) 45 tab n ∧ SndX (theX w B) 45 tab n ∧ SndK (theX w B) 45 tab n ∧ SndA (theX w B) 45 tab n :=
  have Fc := facts_ok hK inB hmg hmb hb
  have Gf := gf_ok hK inB hmg
  sound Fc Gf (fns_ok rfl rfl rfl hK inB) hl repr_snd (fun n hE => raise_snd Fc Gf (make_ok hK inB hmg hmb hb hl) hE) n
end
theorem law_join {w : World} {B h1 : Heap} {mg mb : Str → Option Value} {K : Frag} (hK : Good K) (inB : K.In B) (hmg : B.Ns mainGlobals mg) (hmb : B.Ns builtinsNs mb) (hb : ∀ x : Str, x ≠ "__name__" → mb x = bootBuiltins x) (hl : B.NoLimit)
    {zs : List Int} {v : Addr} (hv : DRel (theX w B) B [] (.list (zs.map .int)) (.ref v)) {mm : Str → Option Value} (hm : mm (nm 73) = some (.ref v)) (F : Fr B B.objs.size h1 mm)
    {env : Env} {names : List (Str × NameKind)} {more : _} (hsc : env.scope = ⟨.function, names, false, false, more⟩) (hks : rKs Mine.idOf names = some f116.ks) (e1 : env.locals = B.objs.size) (e2 : env.globals = mainGlobals) (e3 : env.builtins = builtinsNs) (e4 : env.cells = []) (e5 : env.frame = some env.locals)
    {body : List Stmt} (hbody : f116.body = body.map (erS Mine.idOf f116.ks 60)) {s : Shared} (hs : s.heap = h1) {A : Around} (hA : AOK 99 A [env])
    (hp : ∃ H, callF tab 100 116 [.d (.list (zs.map .int))] [] = .ok (.d (.bool true)) H) :
    wpAny (model PySem.Challenge.pw_xw0169_01 w) A (execs body env) (fun fl s' => fl = .ret (.bool true) ∧ (∀ b o, B.get? b = some o → s'.heap.get? b = some o) ∧ s'.gens = s.gens ∧ s'.os = s.os) (fun _ _ => False) s := by
  have hX := (all_snd (w := w) hK inB hmg hmb hb hl 99).2.2.2.1
  have N := names_ok w B
  have hkindOf : ∀ y, env.kindOf y = names.lookup y := fun y => by show env.scope.names.lookup y = _; rw [hsc]
  have hV : EnvOK (theX w B) env f116.ks := by
    refine ⟨by rw [hsc], fun y k hy => ?_, e2, e3, fun y z c hy => by (rw [e4] at hy; cases hy), by rw [e1]; exact Nat.le_refl _, fun y c hy => by rw [e4] at hy; cases hy⟩
    rw [hkindOf, rKs_lookup N hy names _ hks]
    cases q : f116.ks.lookup k with
    | none => rfl
    | some kk =>
      dsimp only [Option.map]
      rw [if_neg (fun e => ?_)]
      subst e
      have := lookup_mem q
      simp [f116] at this
  obtain ⟨o', es, ep, g', d', _⟩ := id F.ns
  have hsz : B.objs.size ≤ s.heap.objs.size := by rw [hs]; exact Nat.le_of_lt (Heap.lt_size g')
  have I : Inv (theX w B) [env] [] [] s := by
    refine ⟨?_, by rw [hs]; exact F.keep, fun e he => ?_, fun e he L hL => ?_, hsz⟩
    · exact ⟨rfl, fun i p o h _ => by simp at h, fun i j p q _ h _ => by simp at h, fun p hp => by cases hp⟩
    · obtain rfl := List.mem_singleton.mp he
      exact ⟨by rw [hV.kind]; decide, _, o', es, ep, e5, hV.abv, by rw [hs, e1]; exact g', d'⟩
    · rintro ⟨p, hp, _⟩; cases hp
  have a : At (theX w B) [env] env f116.ks [(73, .d (.list (zs.map .int)))] [] [] s := by
    refine ⟨I, ⟨mm, by rw [hs, e1]; exact F.ns, fun k u hk hu => ?_⟩, fun k hk => ?_, fun k u hu => ?_, by rintro ⟨p, hp, _⟩; cases hp⟩
    · have := lookup_mem hu
      simp only [List.mem_singleton, Prod.mk.injEq] at this
      obtain ⟨rfl, rfl⟩ := this
      exact ⟨_, hm, DRel.ofBase I hv⟩
    · rcases hk with hk | hk <;> (have := lookup_mem hk; simp [f116] at this)
    · have := lookup_mem hu
      simp only [List.mem_singleton, Prod.mk.injEq] at this
      obtain ⟨rfl, rfl⟩ := this
      exact ⟨by kernel_rfl, .inl rfl⟩
  have z := execs_snd (m := 60) hX hA hV e5 rfl body a
  obtain ⟨H, hp⟩ := hp
  have hp : leaveF 0 (execL (fun loc s H => exec tab 99 f116.ks loc s H) f116.body [(73, .d (.list (zs.map .int)))] []) = .ok (.d (.bool true)) H := hp
  rw [hbody] at hp
  change JE (theX w B) 45 [env] A (execs body env) _ _ _ (execL (fun loc s H => exec tab 99 f116.ks loc s H) (body.map (erS Mine.idOf f116.ks 60)) _ _) s at z
  generalize execL (fun loc s H => exec tab 99 f116.ks loc s H) (body.map (erS Mine.idOf f116.ks 60)) [(73, .d (.list (zs.map .int)))] [] = r at hp z
  induction r with
  | bad => cases hp
  | exc m sp H' => cases hp
  | ok x H' =>
    obtain ⟨fl, loc'⟩ := x
    refine wpAny_mono z (fun f s' ⟨ρ', ex, I', ⟨_, R⟩, S⟩ => ?_) fun _ _ x => x
    have keep : (∀ b o, B.get? b = some o → s'.heap.get? b = some o) ∧ s'.gens = s.gens ∧ s'.os = s.os := ⟨I'.base, S.gens, S.os⟩
    induction fl with
    | ret u =>
      induction u with
      | d d =>
        have e : d = .bool true := by
          have this : Mine.R.ok (V.d d) (H'.take 0) = Mine.R.ok (V.d (D.bool true)) H := hp
          injection this with q _
          injection q
        subst e
        obtain ⟨u', rfl, hu⟩ := R
        have hu : u' = .bool true := hu
        exact ⟨by rw [hu], keep⟩
      | loc i =>
        simp only [leaveF, Nat.not_lt_zero, if_false] at hp
        split at hp <;> cases hp
    | next => cases hp
    | _ => cases hp
end Mine
end
section
open PySem PySem.W PyProof.Rows
namespace Mine
local macro_rules | `(tactic| k_qdec) => `(tactic| decide +kernel)
theorem caller_ok (env : Env) : AOK 99 (callerA.deeper env) [env] := ⟨rfl, rfl, rfl, by show callerA.depth + _ + _ + _ ≤ _; decide +kernel, by show callerA.units + 3 + _ + _ ≤ _; decide +kernel⟩
theorem ints_rel {X : Wd} {h : Heap} : ∀ {vs : List Value} {zs : List Int}, IntsAre vs zs → DRels X h [] (zs.map .int) vs
  | _, _, .nil => rfl
  | _, _, .cons n t r => ⟨_, _, rfl, ⟨t, rfl⟩, ints_rel r⟩
set_option maxHeartbeats 8000000 in
theorem law_holds (pureLaw : ∀ zs : List Int, zs.length ≤ 63 → (∀ z ∈ zs, True) → ∃ H, callF tab 100 116 [.d (.list (zs.map .int))] [] = .ok (.d (.bool true)) H) : PySem.Challenge.rw_xw0169_01.Holds := hd (by
  k_fill
  intro w s₀ s₁ mg mb G Y fa o pm cd doc dV kV ho hd hcd hD hmg hg args vals as hpre hlay hrd hwl hlo
  k_behind G ho hd hcd hD hmg hpre hlay hrd hwl hlo cd
  rename_i XM V GL T BT TE TW wa wb M wc wd zs hs hlay0 hL1 hr1 hl2 w4 w3 v ws w0 hL ra w1 r0 hI hr hcond hc2 K0 h1 F N0
  have hlen : zs.length ≤ 63 := by omega
  refine Y.elim fun K KX => wpAny_mono (law_join KX.1 KX.2 T.g T.b T.builtins T.nolimit (zs := zs) (v := v) ?hv ?hm F rfl (by kernel_rfl) rfl rfl rfl rfl rfl (by kernel_rfl) rfl (caller_ok _) (pureLaw zs hlen fun _ _ => trivial)) ?_ ?_
  case hv =>
    obtain ⟨o, ho, hc, n, hd'⟩ := hL
    have w2 : Well _ _ (.ref v) (.list _) := w1
    cases w2 with
    | list hg _ =>
      rw [hg] at ho
      cases ho
      injection hd' with q1 q2
      rw [q1] at hg
      exact ⟨v, ws.toArray, _, rfl, hg, (by rintro ⟨p, hp, _⟩; cases hp), ints_rel hI⟩
  case hm => exact rfl
  · rintro f s' ⟨rfl, k1, k2, k3⟩
    refine ⟨.inl ⟨.bool true, .bool true, [], rfl, fun cls => ?_, ?_, ?_, fun _ => ⟨.nil, fun _ h => nomatch h⟩⟩, k1, k3, k2.trans (by assumption)⟩
    · first | rfl | row_none_raised
    · first | exact .bool | exact .bool _ | constructor
    · first | rfl | kernel_rfl
  · exact fun _ _ z => z.elim)
end Mine
end
section
set_option maxHeartbeats 4000000
namespace Mine
open PySem
theorem told : callF tab 94 115 [] [] = .ok (.d (.bool true)) [] := by kernel_rfl
end Mine
end
section
namespace Mine.P
open PySem
@[simp] theorem tf_1015 : tab.fn 1015 = some f1015 := rfl
@[simp] theorem tf_1023 : tab.fn 1023 = some f1023 := rfl
@[simp] theorem tf_1026 : tab.fn 1026 = some f1026 := rfl
@[simp] theorem tf_1025 : tab.fn 1025 = some f1025 := rfl
@[simp] theorem tf_1028 : tab.fn 1028 = some f1028 := rfl
@[simp] theorem tf_1030 : tab.fn 1030 = some f1030 := rfl
@[simp] theorem tf_1032 : tab.fn 1032 = some f1032 := rfl
@[simp] theorem tf_1033 : tab.fn 1033 = some f1033 := rfl
@[simp] theorem tf_35 : tab.fn 35 = some f35 := rfl
@[simp] theorem tf_39 : tab.fn 39 = some f39 := rfl
@[simp] theorem tf_42 : tab.fn 42 = some f42 := rfl
@[simp] theorem tf_45 : tab.fn 45 = some f45 := rfl
@[simp] theorem tf_46 : tab.fn 46 = some f46 := rfl
@[simp] theorem tf_47 : tab.fn 47 = some f47 := rfl
@[simp] theorem tf_48 : tab.fn 48 = some f48 := rfl
@[simp] theorem tf_53 : tab.fn 53 = some f53 := rfl
@[simp] theorem tf_49 : tab.fn 49 = some f49 := rfl
@[simp] theorem tf_50 : tab.fn 50 = some f50 := rfl
@[simp] theorem tf_61 : tab.fn 61 = some f61 := rfl
@[simp] theorem tf_51 : tab.fn 51 = some f51 := rfl
@[simp] theorem tf_52 : tab.fn 52 = some f52 := rfl
@[simp] theorem tf_54 : tab.fn 54 = some f54 := rfl
@[simp] theorem tf_68 : tab.fn 68 = some f68 := rfl
@[simp] theorem tf_69 : tab.fn 69 = some f69 := rfl
@[simp] theorem tf_70 : tab.fn 70 = some f70 := rfl
@[simp] theorem tf_72 : tab.fn 72 = some f72 := rfl
@[simp] theorem tf_78 : tab.fn 78 = some f78 := rfl
@[simp] theorem tf_82 : tab.fn 82 = some f82 := rfl
@[simp] theorem tf_84 : tab.fn 84 = some f84 := rfl
@[simp] theorem tf_86 : tab.fn 86 = some f86 := rfl
@[simp] theorem tf_88 : tab.fn 88 = some f88 := rfl
@[simp] theorem tf_90 : tab.fn 90 = some f90 := rfl
@[simp] theorem tf_92 : tab.fn 92 = some f92 := rfl
@[simp] theorem tf_94 : tab.fn 94 = some f94 := rfl
@[simp] theorem tf_97 : tab.fn 97 = some f97 := rfl
@[simp] theorem tf_104 : tab.fn 104 = some f104 := rfl
@[simp] theorem tf_107 : tab.fn 107 = some f107 := rfl
@[simp] theorem tf_108 : tab.fn 108 = some f108 := rfl
@[simp] theorem tf_109 : tab.fn 109 = some f109 := rfl
@[simp] theorem tf_111 : tab.fn 111 = some f111 := rfl
@[simp] theorem tf_113 : tab.fn 113 = some f113 := rfl
@[simp] theorem tf_114 : tab.fn 114 = some f114 := rfl
@[simp] theorem tf_115 : tab.fn 115 = some f115 := rfl
@[simp] theorem tf_116 : tab.fn 116 = some f116 := rfl
@[simp] theorem tm_1015 : tab.meth 15 = some 1015 := rfl
@[simp] theorem tm_1023 : tab.meth 23 = some 1023 := rfl
@[simp] theorem tm_1026 : tab.meth 26 = some 1026 := rfl
@[simp] theorem tm_1025 : tab.meth 25 = some 1025 := rfl
@[simp] theorem tm_1028 : tab.meth 28 = some 1028 := rfl
@[simp] theorem tm_1030 : tab.meth 30 = some 1030 := rfl
@[simp] theorem tm_1032 : tab.meth 32 = some 1032 := rfl
@[simp] theorem tm_1033 : tab.meth 33 = some 1033 := rfl
@[simp] theorem tc_35 : tab.const 35 = some (.gv 35) := rfl
@[simp] theorem tc_39 : tab.const 39 = some (.gv 39) := rfl
@[simp] theorem tc_42 : tab.const 42 = some (.gv 42) := rfl
@[simp] theorem tc_45 : tab.const 45 = some (.gv 45) := rfl
@[simp] theorem tc_46 : tab.const 46 = some (.gv 46) := rfl
@[simp] theorem tc_47 : tab.const 47 = some (.gv 47) := rfl
@[simp] theorem tc_48 : tab.const 48 = some (.gv 48) := rfl
@[simp] theorem tc_53 : tab.const 53 = some (.gv 53) := rfl
@[simp] theorem tc_49 : tab.const 49 = some (.gv 49) := rfl
@[simp] theorem tc_50 : tab.const 50 = some (.gv 50) := rfl
@[simp] theorem tc_61 : tab.const 61 = some (.gv 61) := rfl
@[simp] theorem tc_51 : tab.const 51 = some (.gv 51) := rfl
@[simp] theorem tc_52 : tab.const 52 = some (.gv 52) := rfl
@[simp] theorem tc_54 : tab.const 54 = some (.gv 54) := rfl
@[simp] theorem tc_68 : tab.const 68 = some (.gv 68) := rfl
@[simp] theorem tc_69 : tab.const 69 = some (.gv 69) := rfl
@[simp] theorem tc_70 : tab.const 70 = some (.gv 70) := rfl
@[simp] theorem tc_72 : tab.const 72 = some (.gv 72) := rfl
@[simp] theorem tc_78 : tab.const 78 = some (.gv 78) := rfl
@[simp] theorem tc_82 : tab.const 82 = some (.gv 82) := rfl
@[simp] theorem tc_84 : tab.const 84 = some (.gv 84) := rfl
@[simp] theorem tc_86 : tab.const 86 = some (.gv 86) := rfl
@[simp] theorem tc_88 : tab.const 88 = some (.gv 88) := rfl
@[simp] theorem tc_90 : tab.const 90 = some (.gv 90) := rfl
@[simp] theorem tc_92 : tab.const 92 = some (.gv 92) := rfl
@[simp] theorem tc_94 : tab.const 94 = some (.gv 94) := rfl
@[simp] theorem tc_97 : tab.const 97 = some (.gv 97) := rfl
@[simp] theorem tc_104 : tab.const 104 = some (.gv 104) := rfl
@[simp] theorem tc_107 : tab.const 107 = some (.gv 107) := rfl
@[simp] theorem tc_108 : tab.const 108 = some (.gv 108) := rfl
@[simp] theorem tc_109 : tab.const 109 = some (.gv 109) := rfl
@[simp] theorem tc_111 : tab.const 111 = some (.gv 111) := rfl
@[simp] theorem tc_113 : tab.const 113 = some (.gv 113) := rfl
@[simp] theorem tc_114 : tab.const 114 = some (.gv 114) := rfl
@[simp] theorem tc_115 : tab.const 115 = some (.gv 115) := rfl
@[simp] theorem tc_116 : tab.const 116 = some (.gv 116) := rfl
@[simp] theorem tc_0 : tab.const 0 = some (.gv 0) := rfl
@[simp] theorem tc_1 : tab.const 1 = some (.gv 1) := rfl
@[simp] theorem tc_2 : tab.const 2 = some (.gv 2) := rfl
@[simp] theorem tc_3 : tab.const 3 = some (.gv 3) := rfl
@[simp] theorem tc_4 : tab.const 4 = some (.gv 4) := rfl
@[simp] theorem tc_5 : tab.const 5 = some (.gv 5) := rfl
@[simp] theorem tc_6 : tab.const 6 = some (.gv 6) := rfl
@[simp] theorem tc_7 : tab.const 7 = some (.gv 7) := rfl
@[simp] theorem tc_8 : tab.const 8 = some (.gv 8) := rfl
@[simp] theorem tc_9 : tab.const 9 = some (.gv 9) := rfl
@[simp] theorem tc_24 : tab.const 24 = some (.int 60) := rfl
@[simp] theorem tc_34 : tab.const 34 = some (.tup (strsD keywordsL)) := rfl
@[simp] theorem tc_44 : tab.const 44 = some (.tup (strsD pathWordsL)) := rfl
end Mine.P
end
section
namespace Mine.P
open PySem
theorem callX : ∃ C : Nat → Nat → List V → Hp → R V, C = callF tab := ⟨_, rfl⟩
noncomputable def callT : Nat → Nat → List V → Hp → R V := Classical.choose callX
theorem callT_eq : callT = callF tab := Classical.choose_spec callX
noncomputable def _root_.Mine.R.bnd {α β : Type} (f : α → Hp → R β) (x : R α) : R β := R.bind x f
theorem binCX : ∃ C : Operator → V → V → Hp → R V, C = binV := ⟨_, rfl⟩
noncomputable def binX : Operator → V → V → Hp → R V := Classical.choose binCX
theorem binX_eq : binX = binV := Classical.choose_spec binCX
noncomputable def intI (f : Int → Int → Int) (a b : V) (H : Hp) (z : R V) : R V := match a with
  | .d (.int x) => match b with
    | .d (.int y) => .ok (.d (.int (f x y))) H
    | _ => z
  | _ => z
noncomputable def binC (op : Operator) (a b : V) (H : Hp) : R V := match op with
  | .Add => intI (fun x y => x + y) a b H (binX .Add a b H)
  | .Sub => intI (fun x y => x - y) a b H (binX .Sub a b H)
  | op => binX op a b H
theorem binC_eq : binC = binV := by
  funext op a b H
  have i0 : ∀ (f : Int → Int → Int) (z : R V), (∀ x y, a = .d (.int x) → b = .d (.int y) → z = .ok (.d (.int (f x y))) H) → intI f a b H z = z := by
    intro f z h
    cases a with
    | loc => rfl
    | d a =>
      cases a with
      | int x =>
        cases b with
        | loc => rfl
        | d b =>
          cases b with
          | int y => exact (h x y rfl rfl).symm
          | _ => rfl
      | _ => rfl
  cases op with
  | Add => show intI _ a b H (binX .Add a b H) = _; rw [i0 _ _ (by rw [binX_eq]; intro x y e1 e2; rw [e1, e2]; rfl), binX_eq]
  | Sub => show intI _ a b H (binX .Sub a b H) = _; rw [i0 _ _ (by rw [binX_eq]; intro x y e1 e2; rw [e1, e2]; rfl), binX_eq]
  | _ => show binX _ a b H = _; rw [binX_eq]
theorem idxCX : ∃ C : V → V → Hp → R V, C = idxV := ⟨_, rfl⟩
noncomputable def idxX : V → V → Hp → R V := Classical.choose idxCX
theorem idxX_eq : idxX = idxV := Classical.choose_spec idxCX
noncomputable def nthR (l : List D) (k : Nat) (H : Hp) : R V := match l, k with
  | [], _ => .bad
  | x :: _, 0 => .ok (.d x) H
  | _ :: r, k + 1 => nthR r k H
theorem nthR_eq : ∀ (l : List D) (k : Nat) (H : Hp), nthR l k H = R.opt l[k]? fun x => .ok (.d x) H
  | [], _, _ => rfl
  | _ :: _, 0, _ => rfl
  | _ :: r, k + 1, H => by rw [List.getElem?_cons_succ]; exact nthR_eq r k H
theorem idxV_tup (l : List D) (k : Int) (H : Hp) : idxV (.d (.tup l)) (.d (.int k)) H = R.guard (decide (0 ≤ k) && decide (k < 9223372036854775808)) (R.opt l[k.toNat]? fun x => .ok (.d x) H) := rfl
noncomputable def idxC (o i : V) (H : Hp) : R V := match i with
  | .d (.int (.ofNat k)) => match o with
    | .d (.tup l) => cond (Nat.blt k 20) (nthR l k H) (idxX o i H)
    | _ => idxX o i H
  | _ => idxX o i H
theorem idxC_eq : idxC = idxV := by
  funext o i H
  cases i with
  | loc => show idxX _ _ H = _; rw [idxX_eq]
  | d i =>
    cases i with
    | int k =>
      cases k with
      | negSucc k => show idxX _ _ H = _; rw [idxX_eq]
      | ofNat k =>
        cases o with
        | loc => show idxX _ _ H = _; rw [idxX_eq]
        | d o =>
          cases o with
          | tup l =>
            show cond (Nat.blt k 20) (nthR l k H) (idxX _ _ H) = _
            cases q : Nat.blt k 20 with
            | false => show idxX _ _ H = _; rw [idxX_eq]
            | true =>
              have q : k < 20 := Nat.le_of_ble_eq_true q
              rw [idxV_tup, cond_true, nthR_eq, decide_eq_true (show 0 ≤ Int.ofNat k from Int.natCast_nonneg k), decide_eq_true (show Int.ofNat k < 9223372036854775808 from Int.lt_of_lt_of_le (Int.ofNat_lt.mpr q) (by decide))]
              rfl
          | _ => show idxX _ _ H = _; rw [idxX_eq]
    | _ => show idxX _ _ H = _; rw [idxX_eq]
theorem bltnCX : ∃ C : Nat → List V → Hp → R V, C = bltn := ⟨_, rfl⟩
noncomputable def bltnC : Nat → List V → Hp → R V := Classical.choose bltnCX
theorem bltnC_eq : bltnC = bltn := Classical.choose_spec bltnCX
theorem slCX : ∃ C : V → V → Hp → R V, C = slV := ⟨_, rfl⟩
noncomputable def slC : V → V → Hp → R V := Classical.choose slCX
theorem slC_eq : slC = slV := Classical.choose_spec slCX
theorem strCX : ∃ C : Nat → Str → List V → Hp → R V, C = strMeth := ⟨_, rfl⟩
noncomputable def strC : Nat → Str → List V → Hp → R V := Classical.choose strCX
theorem strC_eq : strC = strMeth := Classical.choose_spec strCX
noncomputable def lku {α : Type} (a : Nat) : List (Nat × α) → Option α
  | [] => none
  | x :: l => cond (a == x.1) (some x.2) (lku a l)
noncomputable def lkc {α : Type} (c : Bool) (b : α) (a : Nat) (l : List (Nat × α)) : Option α := cond c (some b) (lku a l)
@[simp] theorem lkc_t {α : Type} (b : α) (a : Nat) (l : List (Nat × α)) : lkc true b a l = some b := rfl
@[simp] theorem lkc_f {α : Type} (b : α) (a : Nat) (l : List (Nat × α)) : lkc false b a l = lku a l := rfl
@[simp] theorem lku_0 {α : Type} (a : Nat) : lku a ([] : List (Nat × α)) = none := rfl
@[simp] theorem lku_1 {α : Type} (a k : Nat) (b : α) (l : List (Nat × α)) : lku a ((k, b) :: l) = lkc (a == k) b a l := rfl
theorem lku_eq {α : Type} (a : Nat) (l : List (Nat × α)) : l.lookup a = lku a l := by
  induction l with
  | nil => rfl
  | cons x l ih =>
    obtain ⟨k, b⟩ := x
    rw [List.lookup_cons, lku_1, ih]
    cases a == k <;> rfl
noncomputable def okD (d : D) (H : Hp) : R V := .ok (.d d) H
noncomputable def nmQ (a : Option V) (k : Option NameKind) (n : Nat) (H : Hp) : R V := match a with
  | some v => .ok v H
  | Option.none => match k with
    | some .globalImplicit => R.bnd okD (optR (tab.const n) H)
    | _ => .bad
noncomputable def nmC (ks : Ks) (loc : Loc) (n : Nat) (H : Hp) : R V := nmQ (lku n loc) (lku n ks) n H
theorem nmC_eq : nmV tab = nmC := by
  funext ks loc n H
  rw [show nmC ks loc n H = nmQ (loc.lookup n) (ks.lookup n) n H by rw [lku_eq, lku_eq]; rfl]
  unfold nmV nmQ
  cases loc.lookup n with
  | some => rfl
  | none =>
    cases ks.lookup n with
    | none => rfl
    | some k => cases k <;> first | rfl | (cases tab.const n <;> rfl)
noncomputable def setLc (loc : Loc) (n : Nat) (v : V) : Loc := match loc with
  | [] => [(n, v)]
  | (m, w) :: r => cond (m == n) ((n, v) :: r) ((m, w) :: setLc r n v)
theorem setLc_eq : setLoc = setLc := by
  funext loc n v
  induction loc with
  | nil => rfl
  | cons x r ih =>
    obtain ⟨m, w⟩ := x
    show (if m = n then (n, v) :: r else (m, w) :: setLoc r n v) = cond (m == n) ((n, v) :: r) ((m, w) :: setLc r n v)
    rw [ih]
    by_cases h : m = n
    · rw [if_pos h, beq_iff_eq.mpr h]; rfl
    · rw [if_neg h, beq_eq_false_iff_ne.mpr h]; rfl
noncomputable def stQ (k : Option NameKind) : Bool := match k with
  | some .local => true
  | some .cell => true
  | _ => false
noncomputable def isStC (ks : Ks) (n : Nat) : Bool := stQ (lku n ks)
theorem isStC_eq : isStore = isStC := by
  funext ks n
  show stQ (ks.lookup n) = _
  rw [lku_eq]; rfl
noncomputable def setLcs (ks : Ks) : List Nat → List V → Loc → Option Loc
  | [], vs, loc => match vs with
    | [] => some loc
    | _ :: _ => Option.none
  | n :: ns, vs, loc => match vs with
    | [] => Option.none
    | v :: vs => bif isStC ks n then setLcs ks ns vs (setLc loc n v) else Option.none
theorem setLcs_eq : setLocs = setLcs := by
  funext ks ns
  induction ns with
  | nil => funext vs loc; cases vs <;> rfl
  | cons n ns ih =>
    funext vs loc
    cases vs with
    | nil => rfl
    | cons v vs =>
      show (if isStore ks n then setLocs ks ns vs (setLoc loc n v) else Option.none) = bif isStC ks n then setLcs ks ns vs (setLc loc n v) else Option.none
      rw [ih, isStC_eq, setLc_eq]
      cases isStC ks n <;> rfl
noncomputable section
mutual
noncomputable def evalC : Nat → Ks → Loc → Ex → Hp → R V
  | 0, _, _, _, _ => .bad
  | n + 1, ks, loc, e, H => evalF tab nmC (evalC n) (testC n) (applyC n) (callT n) binC idxC slC strC setLcs ks loc e H
noncomputable def testC : Nat → Ks → Loc → Ex → Hp → R Bool
  | 0, _, _, _, _ => .bad
  | n + 1, ks, loc, e, H => testF (evalC n) (testC n) ks loc e H
noncomputable def applyC : Nat → V → List V → Hp → R V
  | 0, _, _, _ => .bad
  | n + 1, fv, vs, H => applyF tab (callT n) bltnC fv vs H
noncomputable def execC : Nat → Ks → Loc → St → Hp → R (Fl × Loc)
  | 0, _, _, _, _ => .bad
  | n + 1, ks, loc, s, H => execF (evalC n) (testC n) (execC n) setLcs setLc isStC ks loc s H
end
end
theorem run_eq : ∀ n, evalE tab n = evalC n ∧ testE tab n = testC n ∧ applyV tab n = applyC n ∧ exec tab n = execC n := by
  intro n
  induction n with
  | zero => exact ⟨rfl, rfl, rfl, rfl⟩
  | succ n ih =>
    obtain ⟨h1, h2, h3, h4⟩ := ih
    refine ⟨?_, ?_, ?_, ?_⟩
    · funext ks loc e H
      show evalF tab (nmV tab) (evalE tab n) (testE tab n) (applyV tab n) (callF tab n) binV idxV slV strMeth setLocs ks loc e H = evalF tab nmC (evalC n) (testC n) (applyC n) (callT n) binC idxC slC strC setLcs ks loc e H
      rw [h1, h2, h3, ← callT_eq, binC_eq, idxC_eq, slC_eq, strC_eq, nmC_eq, setLcs_eq]
    · funext ks loc e H
      show testF (evalE tab n) (testE tab n) ks loc e H = testF (evalC n) (testC n) ks loc e H
      rw [h1, h2]
    · funext fv vs H
      show applyF tab (callF tab n) bltn fv vs H = applyF tab (callT n) bltnC fv vs H
      rw [← callT_eq, bltnC_eq]
    · funext ks loc s H
      show execF (evalE tab n) (testE tab n) (exec tab n) setLocs setLoc isStore ks loc s H = execF (evalC n) (testC n) (execC n) setLcs setLc isStC ks loc s H
      rw [h1, h2, h4, setLcs_eq, setLc_eq, isStC_eq]
end Mine.P
end
section
namespace Mine.P
open PySem
noncomputable section
@[simp] theorem bind_ok {α β : Type} (a : α) (H : Hp) (f : α → Hp → R β) : R.bnd f (.ok a H) = f a H := rfl
@[simp] theorem bind_exc {α β : Type} (m : Str) (s : D) (H : Hp) (f : α → Hp → R β) : R.bnd f (.exc m s H) = .exc m s H := rfl
@[simp] theorem guard_tt {α : Type} (x : R α) : R.guard true x = x := rfl
@[simp] theorem only_ok {α : Type} (a : α) (H : Hp) : R.only (.ok a H) = .ok a H := rfl
@[simp] theorem call_any (g : Nat) : callable tab (.d (.gv g)) = (decide (g ≤ 9) || (tab.fn g).isSome) := rfl
@[simp] theorem lv_d (n : Nat) (d : D) (loc : Loc) (H : Hp) : leaveF n (.ok (.ret (.d d), loc) H) = .ok (.d d) (H.take n) := rfl
@[simp] theorem lv_next (n : Nat) (loc : Loc) (H : Hp) : leaveF n (.ok (.next, loc) H) = .ok (.d .none) (H.take n) := rfl
@[simp] theorem lv_exc (n : Nat) (m : Str) (s : D) (H : Hp) : leaveF n (.exc m s H) = .exc m s (H.take n) := rfl
noncomputable def lkd {α : Type} (c : Bool) (b : α) (a : Nat) (l : List (Nat × α)) : Option α := cond c (some b) (l.lookup a)
@[simp] theorem lkd_t {α : Type} (b : α) (a : Nat) (l : List (Nat × α)) : lkd true b a l = some b := rfl
@[simp] theorem lkd_f {α : Type} (b : α) (a : Nat) (l : List (Nat × α)) : lkd false b a l = l.lookup a := rfl
@[simp] theorem lk {α : Type} (a k : Nat) (b : α) (l : List (Nat × α)) : List.lookup a ((k, b) :: l) = lkd (a == k) b a l := rfl
@[simp] theorem lk0 {α : Type} (a : Nat) : List.lookup a ([] : List (Nat × α)) = none := rfl
@[simp high] theorem map_c {α β : Type} (f : α → β) (a : α) (l : List α) : List.map f (a :: l) = f a :: List.map f l := rfl
@[simp high] theorem map_n {α β : Type} (f : α → β) : List.map f [] = [] := rfl
@[simp high] theorem rev_0 {α : Type} : List.reverse ([] : List α) = [] := rfl
@[simp high] theorem rev_1 {α : Type} (a : α) : List.reverse [a] = [a] := rfl
@[simp high] theorem rev_2 {α : Type} (a b : α) : List.reverse [a, b] = [b, a] := rfl
@[simp high] theorem rev_3 {α : Type} (a b c : α) : List.reverse [a, b, c] = [c, b, a] := rfl
@[simp high] theorem drop_c {α : Type} (n : Nat) (a : α) (l : List α) : List.drop (n + 1) (a :: l) = List.drop n l := rfl
@[simp high] theorem drop_z {α : Type} (l : List α) : List.drop 0 l = l := rfl
@[simp high] theorem get_z {α : Type} (a : α) (l : List α) : (a :: l)[0]? = some a := rfl
@[simp high] theorem get_1 {α : Type} (a b : α) (l : List α) : (a :: b :: l)[1]? = some b := rfl
@[simp high] theorem get_2 {α : Type} (a b c : α) (l : List α) : (a :: b :: c :: l)[2]? = some c := rfl
@[simp high] theorem get_3 {α : Type} (a b c d : α) (l : List α) : (a :: b :: c :: d :: l)[3]? = some d := rfl
@[simp high] theorem app_c {α : Type} (a : α) (l m : List α) : (a :: l) ++ m = a :: (l ++ m) := rfl
@[simp high] theorem app_n {α : Type} (m : List α) : ([] : List α) ++ m = m := rfl
@[simp high] theorem set_z {α : Type} (a b : α) (l : List α) : (a :: l).set 0 b = b :: l := rfl
@[simp high] theorem zip_c {α β : Type} (a : α) (b : β) (l : List α) (m : List β) : (a :: l).zip (b :: m) = (a, b) :: l.zip m := rfl
section
variable (n : Nat) (ks : Ks) (loc : Loc) (H : Hp)
@[simp] theorem nmQ_loc (v : V) (k : Option NameKind) (x : Nat) : nmQ (some v) k x H = .ok v H := rfl
@[simp] theorem okD_eq (d : D) : okD d H = .ok (.d d) H := rfl
@[simp] theorem nmQ_gl (x : Nat) : nmQ none (some .globalImplicit) x H = (optR (tab.const x) H).bnd okD := rfl
@[simp] theorem optR_some {α : Type} (a : α) : optR (some a) H = .ok a H := rfl
@[simp] theorem nmC_r (x : Nat) : nmC ks loc x H = nmQ (lku x loc) (lku x ks) x H := rfl
@[simp] theorem e_none : evalC (n + 1) ks loc .none H = .ok (.d .none) H := rfl
@[simp] theorem e_bool (b : Bool) : evalC (n + 1) ks loc (.bool b) H = .ok (.d (.bool b)) H := rfl
@[simp] theorem e_int (b : Int) : evalC (n + 1) ks loc (.int b) H = .ok (.d (.int b)) H := rfl
@[simp] theorem e_str (b : Str) : evalC (n + 1) ks loc (.str b) H = .ok (.d (.str b)) H := rfl
@[simp] theorem e_nm (x : Nat) : evalC (n + 1) ks loc (.nm x) H = nmC ks loc x H := rfl
noncomputable def boolE (ks : Ks) (loc : Loc) (a : Bool) (es : List Ex) (H : Hp) : R V := boolL (evalC n ks loc) a es H
noncomputable def boolE1 (ks : Ks) (loc : Loc) (a : Bool) (es : List Ex) (v : V) (b : Bool) (H : Hp) : R V := if b == a then boolE n ks loc a es H else .ok v H
noncomputable def boolE0 (ks : Ks) (loc : Loc) (a : Bool) (es : List Ex) (v : V) (H : Hp) : R V := (boolV v H).bnd (boolE1 n ks loc a es v)
@[simp] theorem boolE_1 (a : Bool) (e : Ex) : boolE n ks loc a [e] H = evalC n ks loc e H := rfl
@[simp] theorem boolE_2 (a : Bool) (e e' : Ex) (r : List Ex) : boolE n ks loc a (e :: e' :: r) H = (evalC n ks loc e H).bnd (boolE0 n ks loc a (e' :: r)) := rfl
@[simp] theorem boolE0_eq (a : Bool) (es : List Ex) (v : V) : boolE0 n ks loc a es v H = (boolV v H).bnd (boolE1 n ks loc a es v) := rfl
@[simp] theorem boolE1_tt (es : List Ex) (v : V) : boolE1 n ks loc true es v true H = boolE n ks loc true es H := rfl
@[simp] theorem boolE1_tf (es : List Ex) (v : V) : boolE1 n ks loc true es v false H = .ok v H := rfl
@[simp] theorem boolE1_ft (es : List Ex) (v : V) : boolE1 n ks loc false es v true H = .ok v H := rfl
@[simp] theorem boolE1_ff (es : List Ex) (v : V) : boolE1 n ks loc false es v false H = boolE n ks loc false es H := rfl
@[simp low] theorem boolE1_eq (a b : Bool) (es : List Ex) (v : V) : boolE1 n ks loc a es v b H = if b == a then boolE n ks loc a es H else .ok v H := rfl
noncomputable def allE (ks : Ks) (loc : Loc) (a : Bool) (es : List Ex) (H : Hp) : R Bool := allT (testC n ks loc) a es H
noncomputable def allE1 (ks : Ks) (loc : Loc) (a : Bool) (es : List Ex) (b : Bool) (H : Hp) : R Bool := if b == a then allE n ks loc a es H else .ok b H
@[simp] theorem allE_0 (a : Bool) : allE n ks loc a [] H = .ok a H := rfl
@[simp] theorem allE_1 (a : Bool) (e : Ex) (r : List Ex) : allE n ks loc a (e :: r) H = (testC n ks loc e H).bnd (allE1 n ks loc a r) := rfl
@[simp] theorem allE1_tt (es : List Ex) : allE1 n ks loc true es true H = allE n ks loc true es H := rfl
@[simp] theorem allE1_tf (es : List Ex) : allE1 n ks loc true es false H = .ok false H := rfl
@[simp] theorem allE1_ft (es : List Ex) : allE1 n ks loc false es true H = .ok true H := rfl
@[simp] theorem allE1_ff (es : List Ex) : allE1 n ks loc false es false H = allE n ks loc false es H := rfl
@[simp low] theorem allE1_eq (a b : Bool) (es : List Ex) : allE1 n ks loc a es b H = if b == a then allE n ks loc a es H else .ok b H := rfl
noncomputable def consV (v : V) (vs : List V) (H : Hp) : R (List V) := .ok (v :: vs) H
@[simp] theorem consV_eq (v : V) (vs : List V) : consV v vs H = .ok (v :: vs) H := rfl
noncomputable def lisE (ks : Ks) (loc : Loc) (es : List Ex) (H : Hp) : R (List V) := evalL (evalC n ks loc) es H
noncomputable def lisE1 (ks : Ks) (loc : Loc) (es : List Ex) (v : V) (H : Hp) : R (List V) := (lisE n ks loc es H).bnd (consV v)
@[simp] theorem lisE_0 : lisE n ks loc [] H = .ok [] H := rfl
@[simp] theorem lisE_1 (e : Ex) (r : List Ex) : lisE n ks loc (e :: r) H = (evalC n ks loc e H).bnd (lisE1 n ks loc r) := rfl
@[simp] theorem lisE1_eq (es : List Ex) (v : V) : lisE1 n ks loc es v H = (lisE n ks loc es H).bnd (consV v) := rfl
noncomputable def okB (b : Bool) (H : Hp) : R V := .ok (.d (.bool b)) H
@[simp] theorem okB_eq (b : Bool) : okB b H = .ok (.d (.bool b)) H := rfl
noncomputable def notB (b : Bool) (H : Hp) : R V := .ok (.d (.bool !b)) H
@[simp] theorem notB_eq (b : Bool) : notB b H = .ok (.d (.bool !b)) H := rfl
noncomputable def notV (v : V) (H : Hp) : R V := (boolV v H).bnd notB
@[simp] theorem notV_eq (v : V) : notV v H = (boolV v H).bnd notB := rfl
@[simp] theorem e_bop (a : Bool) (es : List Ex) : evalC (n + 1) ks loc (.bop a es) H = boolE n ks loc a es H := rfl
@[simp] theorem e_not (e : Ex) : evalC (n + 1) ks loc (.not e) H = (evalC n ks loc e H).bnd notV := rfl
noncomputable def negV (v : V) (H : Hp) : R V := match v with
  | .d (.int i) => retI (-i) H
  | _ => .bad
@[simp] theorem negV_eq (i : Int) : negV (.d (.int i)) H = .ok (.d (.int (-i))) H := rfl
@[simp] theorem e_neg (e : Ex) : evalC (n + 1) ks loc (.neg e) H = (evalC n ks loc e H).bnd negV := rfl
noncomputable def binK (ks : Ks) (loc : Loc) (op : Operator) (r : Ex) (a : V) (H : Hp) : R V := (evalC n ks loc r H).bnd (binC op a)
@[simp] theorem binK_eq (op : Operator) (r : Ex) (a : V) : binK n ks loc op r a H = (evalC n ks loc r H).bnd (binC op a) := rfl
@[simp] theorem e_bin (op : Operator) (l r : Ex) : evalC (n + 1) ks loc (.bin op l r) H = (evalC n ks loc l H).bnd (binK n ks loc op r) := rfl
noncomputable def iteK (ks : Ks) (loc : Loc) (b o : Ex) (c : Bool) (H : Hp) : R V := if c then evalC n ks loc b H else evalC n ks loc o H
@[simp] theorem iteK_t (b o : Ex) : iteK n ks loc b o true H = evalC n ks loc b H := rfl
@[simp] theorem iteK_f (b o : Ex) : iteK n ks loc b o false H = evalC n ks loc o H := rfl
@[simp low] theorem iteK_eq (b o : Ex) (c : Bool) : iteK n ks loc b o c H = if c then evalC n ks loc b H else evalC n ks loc o H := rfl
@[simp] theorem e_ite (t b o : Ex) : evalC (n + 1) ks loc (.ite t b o) H = (testC n ks loc t H).bnd (iteK n ks loc b o) := rfl
noncomputable def tupV (o : Option (List D)) (H : Hp) : R V := match o with
      | some ds => R.guard (decide (ds.length ≤ 1000)) (.ok (.d (.tup ds)) H)
      | Option.none => .bad
noncomputable def lisV (mu : Bool) (o : Option (List D)) (H : Hp) : R V := match o with
      | some ds => R.guard (decide (ds.length ≤ 1000)) (if mu then .ok (.loc H.length) (H ++ [.list ds]) else .ok (.d (.list ds)) H)
      | Option.none => .bad
@[simp] theorem tupV_eq (ds : List D) : tupV (some ds) H = R.guard (decide (ds.length ≤ 1000)) (.ok (.d (.tup ds)) H) := rfl
@[simp] theorem lisV_t (ds : List D) : lisV true (some ds) H = R.guard (decide (ds.length ≤ 1000)) (.ok (.loc H.length) (H ++ [.list ds])) := rfl
@[simp] theorem lisV_f (ds : List D) : lisV false (some ds) H = R.guard (decide (ds.length ≤ 1000)) (.ok (.d (.list ds)) H) := rfl
@[simp high] theorem tupV_0 : tupV (some []) H = .ok (.d (.tup [])) H := rfl
@[simp high] theorem lisVt_0 : lisV true (some []) H = .ok (.loc H.length) (H ++ [.list []]) := rfl
@[simp high] theorem lisVf_0 : lisV false (some []) H = .ok (.d (.list [])) H := rfl
@[simp high] theorem tupV_1 (a : D) : tupV (some [a]) H = .ok (.d (.tup [a])) H := rfl
@[simp high] theorem lisVt_1 (a : D) : lisV true (some [a]) H = .ok (.loc H.length) (H ++ [.list [a]]) := rfl
@[simp high] theorem lisVf_1 (a : D) : lisV false (some [a]) H = .ok (.d (.list [a])) H := rfl
@[simp high] theorem tupV_2 (a b : D) : tupV (some [a, b]) H = .ok (.d (.tup [a, b])) H := rfl
@[simp high] theorem lisVt_2 (a b : D) : lisV true (some [a, b]) H = .ok (.loc H.length) (H ++ [.list [a, b]]) := rfl
@[simp high] theorem lisVf_2 (a b : D) : lisV false (some [a, b]) H = .ok (.d (.list [a, b])) H := rfl
@[simp high] theorem tupV_3 (a b c : D) : tupV (some [a, b, c]) H = .ok (.d (.tup [a, b, c])) H := rfl
@[simp high] theorem lisVt_3 (a b c : D) : lisV true (some [a, b, c]) H = .ok (.loc H.length) (H ++ [.list [a, b, c]]) := rfl
@[simp high] theorem lisVf_3 (a b c : D) : lisV false (some [a, b, c]) H = .ok (.d (.list [a, b, c])) H := rfl
@[simp high] theorem tupV_4 (a b c d : D) : tupV (some [a, b, c, d]) H = .ok (.d (.tup [a, b, c, d])) H := rfl
@[simp high] theorem lisVt_4 (a b c d : D) : lisV true (some [a, b, c, d]) H = .ok (.loc H.length) (H ++ [.list [a, b, c, d]]) := rfl
@[simp high] theorem lisVf_4 (a b c d : D) : lisV false (some [a, b, c, d]) H = .ok (.d (.list [a, b, c, d])) H := rfl
@[simp high] theorem tupV_5 (a b c d e : D) : tupV (some [a, b, c, d, e]) H = .ok (.d (.tup [a, b, c, d, e])) H := rfl
@[simp high] theorem lisVt_5 (a b c d e : D) : lisV true (some [a, b, c, d, e]) H = .ok (.loc H.length) (H ++ [.list [a, b, c, d, e]]) := rfl
@[simp high] theorem lisVf_5 (a b c d e : D) : lisV false (some [a, b, c, d, e]) H = .ok (.d (.list [a, b, c, d, e])) H := rfl
@[simp high] theorem tupV_6 (a b c d e f : D) : tupV (some [a, b, c, d, e, f]) H = .ok (.d (.tup [a, b, c, d, e, f])) H := rfl
@[simp high] theorem lisVt_6 (a b c d e f : D) : lisV true (some [a, b, c, d, e, f]) H = .ok (.loc H.length) (H ++ [.list [a, b, c, d, e, f]]) := rfl
@[simp high] theorem lisVf_6 (a b c d e f : D) : lisV false (some [a, b, c, d, e, f]) H = .ok (.d (.list [a, b, c, d, e, f])) H := rfl
@[simp high] theorem tupV_7 (a b c d e f g : D) : tupV (some [a, b, c, d, e, f, g]) H = .ok (.d (.tup [a, b, c, d, e, f, g])) H := rfl
@[simp high] theorem lisVt_7 (a b c d e f g : D) : lisV true (some [a, b, c, d, e, f, g]) H = .ok (.loc H.length) (H ++ [.list [a, b, c, d, e, f, g]]) := rfl
@[simp high] theorem lisVf_7 (a b c d e f g : D) : lisV false (some [a, b, c, d, e, f, g]) H = .ok (.d (.list [a, b, c, d, e, f, g])) H := rfl
noncomputable def tupK (vs : List V) (H : Hp) : R V := tupV (dats vs) H
@[simp] theorem tupK_eq (vs : List V) : tupK vs H = tupV (dats vs) H := rfl
noncomputable def lisK (mu : Bool) (vs : List V) (H : Hp) : R V := lisV mu (dats vs) H
@[simp] theorem lisK_eq (mu : Bool) (vs : List V) : lisK mu vs H = lisV mu (dats vs) H := rfl
@[simp] theorem e_tup (es : List Ex) : evalC (n + 1) ks loc (.tup es) H = (lisE n ks loc es H).bnd tupK := rfl
@[simp] theorem e_list (mu : Bool) (es : List Ex) : evalC (n + 1) ks loc (.list mu es) H = (lisE n ks loc es H).bnd (lisK mu) := rfl
noncomputable def cmpJ (op : CmpOp) (a b : V) (H : Hp) : R V := (optR (cmpV op a b H) H).bnd okB
@[simp] theorem cmpJ_eq (op : CmpOp) (a b : V) : cmpJ op a b H = (optR (cmpV op a b H) H).bnd okB := rfl
noncomputable def cmpK (ks : Ks) (loc : Loc) (op : CmpOp) (r : Ex) (a : V) (H : Hp) : R V := (evalC n ks loc r H).bnd (cmpJ op a)
@[simp] theorem cmpK_eq (op : CmpOp) (r : Ex) (a : V) : cmpK n ks loc op r a H = (evalC n ks loc r H).bnd (cmpJ op a) := rfl
@[simp] theorem e_cmp (op : CmpOp) (l r : Ex) : evalC (n + 1) ks loc (.cmp op l r) H = (evalC n ks loc l H).bnd (cmpK n ks loc op r) := rfl
noncomputable def callK (ks : Ks) (loc : Loc) (args : List Ex) (fv : V) (H : Hp) : R V := R.guard (callable tab fv) ((lisE n ks loc args H).bnd (applyC n fv))
@[simp] theorem callK_eq (args : List Ex) (fv : V) : callK n ks loc args fv H = R.guard (callable tab fv) ((lisE n ks loc args H).bnd (applyC n fv)) := rfl
@[simp] theorem e_call (f : Nat) (args : List Ex) : evalC (n + 1) ks loc (.call f args) H = (nmC ks loc f H).bnd (callK n ks loc args) := rfl
noncomputable def appV (i : Nat) (vs : List V) (H : Hp) : R V := match vs, H[i]? with
            | [.d x], some (.list l) => R.guard (decide (l.length < 16000)) (.ok (.d .none) (H.set i (.list (l ++ [x]))))
            | _, _ => .bad
noncomputable def metK (f i : Nat) (vs : List V) (H : Hp) : R V := callT n f (.loc i :: vs) H
@[simp] theorem metK_eq (f i : Nat) (vs : List V) : metK n f i vs H = callT n f (.loc i :: vs) H := rfl
noncomputable def metL (ks : Ks) (loc : Loc) (i m : Nat) (args : List Ex) (H : Hp) (o : Option O) : R V := match o with
        | some (.list _) => if m = 11 then (lisE n ks loc args H).bnd (appV i)
          else .bad
        | some (.inst fs) => match tab.meth m, fs.lookup m with
          | some f, Option.none => (lisE n ks loc args H).bnd (metK n f i)
          | _, _ => .bad
        | _ => .bad
noncomputable def metV (ks : Ks) (loc : Loc) (m : Nat) (args : List Ex) (ov : V) (H : Hp) : R V := match ov with
      | .loc i => metL n ks loc i m args H H[i]?
      | .d (.str s) => R.guard (m == 12 || m == 13 || m == 14) ((lisE n ks loc args H).bnd (strC m s))
      | _ => .bad
@[simp] theorem e_meth (o : Ex) (m : Nat) (args : List Ex) : evalC (n + 1) ks loc (.meth o m args) H = (evalC n ks loc o H).bnd (metV n ks loc m args) := rfl
@[simp] theorem metV_loc (m : Nat) (args : List Ex) (i : Nat) : metV n ks loc m args (.loc i) H = metL n ks loc i m args H H[i]? := rfl
@[simp] theorem metV_str (m : Nat) (args : List Ex) (s : Str) : metV n ks loc m args (.d (.str s)) H = R.guard (m == 12 || m == 13 || m == 14) ((lisE n ks loc args H).bnd (strC m s)) := rfl
@[simp] theorem metL_list (args : List Ex) (i : Nat) (l : List D) : metL n ks loc i 11 args H (some (.list l)) = (lisE n ks loc args H).bnd (appV i) := rfl
noncomputable def attV (a : Nat) (ov : V) (H : Hp) : R V := match ov with
      | .loc i => match H[i]? with
        | some (.inst fs) => match fs.lookup a with
          | some d => R.guard (attrIds.contains a) (.ok (.d d) H)
          | Option.none => .bad
        | _ => .bad
      | _ => .bad
@[simp] theorem e_attr (o : Ex) (a : Nat) : evalC (n + 1) ks loc (.attr o a) H = (evalC n ks loc o H).bnd (attV a) := rfl
noncomputable def idxK (ks : Ks) (loc : Loc) (i : Ex) (ov : V) (H : Hp) : R V := (evalC n ks loc i H).bnd (idxC ov)
@[simp] theorem idxK_eq (i : Ex) (ov : V) : idxK n ks loc i ov H = (evalC n ks loc i H).bnd (idxC ov) := rfl
noncomputable def slK (ks : Ks) (loc : Loc) (i : Ex) (ov : V) (H : Hp) : R V := (evalC n ks loc i H).bnd (slC ov)
@[simp] theorem slK_eq (i : Ex) (ov : V) : slK n ks loc i ov H = (evalC n ks loc i H).bnd (slC ov) := rfl
@[simp] theorem e_idx (o i : Ex) : evalC (n + 1) ks loc (.idx o i) H = (evalC n ks loc o H).bnd (idxK n ks loc i) := rfl
@[simp] theorem e_sl (o i : Ex) : evalC (n + 1) ks loc (.sl o i) H = (evalC n ks loc o H).bnd (slK n ks loc i) := rfl
noncomputable def notT (b : Bool) (H : Hp) : R Bool := .ok (!b) H
@[simp] theorem notT_eq (b : Bool) : notT b H = .ok (!b) H := rfl
@[simp] theorem t_not (e : Ex) : testC (n + 1) ks loc (.not e) H = (testC n ks loc e H).bnd notT := rfl
@[simp] theorem t_bop (a : Bool) (es : List Ex) : testC (n + 1) ks loc (.bop a es) H = allE n ks loc a es H := rfl
noncomputable def cmpU (op : CmpOp) (a b : V) (H : Hp) : R Bool := optR (cmpV op a b H) H
@[simp] theorem cmpU_eq (op : CmpOp) (a b : V) : cmpU op a b H = optR (cmpV op a b H) H := rfl
noncomputable def cmpT (ks : Ks) (loc : Loc) (op : CmpOp) (r : Ex) (a : V) (H : Hp) : R Bool := (evalC n ks loc r H).bnd (cmpU op a)
@[simp] theorem cmpT_eq (op : CmpOp) (r : Ex) (a : V) : cmpT n ks loc op r a H = (evalC n ks loc r H).bnd (cmpU op a) := rfl
@[simp] theorem t_cmp (op : CmpOp) (l r : Ex) : testC (n + 1) ks loc (.cmp op l r) H = (evalC n ks loc l H).bnd (cmpT n ks loc op r) := rfl
@[simp] theorem t_nm (x : Nat) : testC (n + 1) ks loc (.nm x) H = (evalC n ks loc (.nm x) H).bnd boolV := rfl
@[simp] theorem t_bool (b : Bool) : testC (n + 1) ks loc (.bool b) H = (evalC n ks loc (.bool b) H).bnd boolV := rfl
@[simp] theorem t_call (f : Nat) (a : List Ex) : testC (n + 1) ks loc (.call f a) H = (evalC n ks loc (.call f a) H).bnd boolV := rfl
@[simp] theorem t_meth (o : Ex) (m : Nat) (a : List Ex) : testC (n + 1) ks loc (.meth o m a) H = (evalC n ks loc (.meth o m a) H).bnd boolV := rfl
@[simp] theorem boolV_eq (b : Bool) : boolV (.d (.bool b)) H = .ok b H := rfl
@[simp] theorem ap_b (g : Nat) (vs : List V) (h : g < 9) : applyC (n + 1) (.d (.gv g)) vs H = bltnC g vs H := by
  show (if g = 9 then _ else if g < 9 then bltnC g vs H else callT n g vs H) = _
  rw [if_neg (Nat.ne_of_lt h), if_pos h]
@[simp] theorem ap_f (g : Nat) (vs : List V) (h : 9 < g) : applyC (n + 1) (.d (.gv g)) vs H = callT n g vs H := by
  show (if g = 9 then _ else if g < 9 then bltnC g vs H else callT n g vs H) = _
  rw [if_neg (Nat.ne_of_gt h), if_neg (Nat.not_lt_of_gt h)]
noncomputable def nextK (loc : Loc) (v : V) (H : Hp) : R (Fl × Loc) := .ok (.next, loc) H
@[simp] theorem nextK_eq (v : V) : nextK loc v H = .ok (.next, loc) H := rfl
noncomputable def asgK (ks : Ks) (loc : Loc) (x : Nat) (v : V) (H : Hp) : R (Fl × Loc) := R.guard (isStC ks x) (.ok (.next, setLc loc x v) H)
@[simp] theorem asgK_eq (x : Nat) (v : V) : asgK ks loc x v H = R.guard (isStC ks x) (.ok (.next, setLc loc x v) H) := rfl
@[simp] theorem s_expr (e : Ex) : execC (n + 1) ks loc (.expr e) H = (evalC n ks loc e H).bnd (nextK loc) := rfl
@[simp] theorem s_asg (x : Nat) (e : Ex) : execC (n + 1) ks loc (.asg x e) H = (evalC n ks loc e H).bnd (asgK ks loc x) := rfl
noncomputable def locR (o : Option Loc) (H : Hp) : R (Fl × Loc) := match o with
  | some l => .ok (.next, l) H
  | Option.none => .bad
@[simp] theorem locR_eq (l : Loc) : locR (some l) H = .ok (.next, l) H := rfl
noncomputable def asgTV (ks : Ks) (loc : Loc) (ns : List Nat) (v : V) (H : Hp) : R (Fl × Loc) := match v with
  | .d (.tup l) => locR (setLcs ks ns (l.map V.d) loc) H
  | _ => .bad
@[simp] theorem asgTV_eq (ns : List Nat) (l : List D) : asgTV ks loc ns (.d (.tup l)) H = locR (setLcs ks ns (l.map V.d) loc) H := rfl
@[simp] theorem s_asgT (ns : List Nat) (e : Ex) : execC (n + 1) ks loc (.asgT ns false e) H = (evalC n ks loc e H).bnd (asgTV ks loc ns) := rfl
noncomputable def asgTK (ks : Ks) (loc : Loc) (ns : List Nat) (vs : List V) (H : Hp) : R (Fl × Loc) := locR (setLcs ks ns vs loc) H
@[simp] theorem asgTK_eq (ns : List Nat) (vs : List V) : asgTK ks loc ns vs H = locR (setLcs ks ns vs loc) H := rfl
noncomputable def asgTR (ks : Ks) (loc : Loc) (ns : List Nat) (vs : List V) (H : Hp) : R (Fl × Loc) := locR (setLcs ks ns.reverse vs.reverse loc) H
@[simp] theorem asgTR_eq (ns : List Nat) (vs : List V) : asgTR ks loc ns vs H = locR (setLcs ks ns.reverse vs.reverse loc) H := rfl
@[simp] theorem s_asgTTf (ns : List Nat) (es : List Ex) : execC (n + 1) ks loc (.asgTT ns false es) H = (lisE n ks loc es H).bnd (asgTK ks loc ns) := rfl
@[simp] theorem s_asgTTt (ns : List Nat) (es : List Ex) : execC (n + 1) ks loc (.asgTT ns true es) H = (lisE n ks loc es H).bnd (asgTR ks loc ns) := rfl
noncomputable def retK (loc : Loc) (v : V) (H : Hp) : R (Fl × Loc) := .ok (.ret v, loc) H
@[simp] theorem retK_eq (v : V) : retK loc v H = .ok (.ret v, loc) H := rfl
@[simp] theorem s_ret (e : Ex) : execC (n + 1) ks loc (.ret e) H = (evalC n ks loc e H).bnd (retK loc) := rfl
noncomputable def blk (ks : Ks) (b : List St) (loc : Loc) (H : Hp) : R (Fl × Loc) := execL (fun loc s H => execC n ks loc s H) b loc H
noncomputable def seqV (ks : Ks) (r : List St) (x : Fl × Loc) (H : Hp) : R (Fl × Loc) := match x.1 with
    | .next => blk n ks r x.2 H
    | fl => .ok (fl, x.2) H
@[simp] theorem seq_next (r : List St) (l : Loc) : seqV n ks r (.next, l) H = blk n ks r l H := rfl
@[simp] theorem seq_ret (r : List St) (l : Loc) (v : V) : seqV n ks r (.ret v, l) H = .ok (.ret v, l) H := rfl
@[simp] theorem seq_brk (r : List St) (l : Loc) : seqV n ks r (.brk, l) H = .ok (.brk, l) H := rfl
@[simp] theorem l_nil : blk n ks [] loc H = .ok (.next, loc) H := rfl
@[simp] theorem l_cons (s : St) (r : List St) : blk n ks (s :: r) loc H = (execC n ks loc s H).bnd (seqV n ks r) := rfl
noncomputable def ifK (ks : Ks) (loc : Loc) (b o : List St) (c : Bool) (H : Hp) : R (Fl × Loc) := if c then blk n ks b loc H else blk n ks o loc H
@[simp] theorem ifK_t (b o : List St) : ifK n ks loc b o true H = blk n ks b loc H := rfl
@[simp] theorem ifK_f (b o : List St) : ifK n ks loc b o false H = blk n ks o loc H := rfl
@[simp low] theorem ifK_eq (b o : List St) (c : Bool) : ifK n ks loc b o c H = if c then blk n ks b loc H else blk n ks o loc H := rfl
@[simp] theorem s_if (t : Ex) (b o : List St) : execC (n + 1) ks loc (.ifS t b o) H = (testC n ks loc t H).bnd (ifK n ks loc b o) := rfl
@[simp] theorem s_brk : execC (n + 1) ks loc .brk H = .ok (.brk, loc) H := rfl
noncomputable def raiV (mv sv : V) (H : Hp) : R (Fl × Loc) := match mv, sv with
      | .d (.str m), .d sp => .exc m sp H
      | _, _ => .bad
@[simp] theorem raiV_eq (m : Str) (sp : D) : raiV (.d (.str m)) (.d sp) H = .exc m sp H := rfl
noncomputable def raiK (ks : Ks) (loc : Loc) (s : Ex) (mv : V) (H : Hp) : R (Fl × Loc) := (evalC n ks loc s H).bnd (raiV mv)
@[simp] theorem raiK_eq (s : Ex) (mv : V) : raiK n ks loc s mv H = (evalC n ks loc s H).bnd (raiV mv) := rfl
@[simp] theorem s_raise (m s : Ex) : execC (n + 1) ks loc (.raise m s) H = (evalC n ks loc m H).bnd (raiK n ks loc s) := rfl
noncomputable def augQ (a : Nat) (i : Nat) (w : V) (o : Option O) (loc : Loc) (H : Hp) : R (Fl × Loc) := match w, o with
            | .d x, some (.inst fs) => R.guard (decide (fs.length < 100)) (.ok (.next, loc) (H.set i (.inst (setField fs a x))))
            | _, _ => .bad
noncomputable def augJ (loc : Loc) (a i : Nat) (w : V) (H : Hp) : R (Fl × Loc) := augQ a i w H[i]? loc H
@[simp] theorem augJ_eq (a i : Nat) (w : V) : augJ loc a i w H = augQ a i w H[i]? loc H := rfl
noncomputable def augK (loc : Loc) (a i : Nat) (op : Operator) (d : D) (v : V) (H : Hp) : R (Fl × Loc) := (augV op (.d d) v H).bnd (augJ loc a i)
@[simp] theorem augK_eq (a i : Nat) (op : Operator) (d : D) (v : V) : augK loc a i op d v H = (augV op (.d d) v H).bnd (augJ loc a i) := rfl
noncomputable def augL (ks : Ks) (loc : Loc) (i a : Nat) (op : Operator) (e : Ex) (H : Hp) (o : Option O) : R (Fl × Loc) := match o with
        | some (.inst fs) => match fs.lookup a with
          | some d => R.guard (attrIds.contains a && decide (fs.length < 100)) ((evalC n ks loc e H).bnd (augK loc a i op d))
          | Option.none => .bad
        | _ => .bad
noncomputable def augW (ks : Ks) (loc : Loc) (a : Nat) (op : Operator) (e : Ex) (ov : V) (H : Hp) : R (Fl × Loc) := match ov with
      | .loc i => augL n ks loc i a op e H H[i]?
      | _ => .bad
@[simp] theorem augW_eq (a i : Nat) (op : Operator) (e : Ex) : augW n ks loc a op e (.loc i) H = augL n ks loc i a op e H H[i]? := rfl
@[simp] theorem s_augA (o : Ex) (a : Nat) (op : Operator) (e : Ex) : execC (n + 1) ks loc (.augA o a op e) H = (evalC n ks loc o H).bnd (augW n ks loc a op e) := rfl
end
@[simp] theorem retI_eq (i : Int) (H : Hp) : retI i H = .ok (.d (.int i)) H := rfl
@[simp] theorem retS_eq (i : Str) (H : Hp) : retS i H = .ok (.d (.str i)) H := rfl
@[simp] theorem dats_0 : dats [] = some [] := rfl
@[simp] theorem dats_1 (x : D) (r : List V) : dats (.d x :: r) = (dats r).map (x :: ·) := rfl
@[simp] theorem setLc_0 (n : Nat) (v : V) : setLc [] n v = [(n, v)] := rfl
noncomputable def stc (c : Bool) (m : Nat) (w : V) (r : Loc) (n : Nat) (v : V) : Loc := cond c ((n, v) :: r) ((m, w) :: setLc r n v)
@[simp] theorem stc_t (m : Nat) (w : V) (r : Loc) (n : Nat) (v : V) : stc true m w r n v = (n, v) :: r := rfl
@[simp] theorem stc_f (m : Nat) (w : V) (r : Loc) (n : Nat) (v : V) : stc false m w r n v = (m, w) :: setLc r n v := rfl
@[simp] theorem setLc_1 (n m : Nat) (v w : V) (r : Loc) : setLc ((m, w) :: r) n v = stc (m == n) m w r n v := rfl
@[simp] theorem setLcs_0 (ks : Ks) (loc : Loc) : setLcs ks [] [] loc = some loc := rfl
noncomputable def sts (c : Bool) (ks : Ks) (ns : List Nat) (vs : List V) (loc : Loc) : Option Loc := bif c then setLcs ks ns vs loc else none
@[simp] theorem sts_t (ks : Ks) (ns : List Nat) (vs : List V) (loc : Loc) : sts true ks ns vs loc = setLcs ks ns vs loc := rfl
@[simp] theorem setLcs_1 (ks : Ks) (n : Nat) (ns : List Nat) (v : V) (vs : List V) (loc : Loc) : setLcs ks (n :: ns) (v :: vs) loc = sts (isStC ks n) ks ns vs (setLc loc n v) := rfl
@[simp] theorem isStC_r (ks : Ks) (n : Nat) : isStC ks n = stQ (lku n ks) := rfl
@[simp] theorem stQ_l : stQ (some .local) = true := rfl
@[simp] theorem stQ_c : stQ (some .cell) = true := rfl
theorem cf (n g : Nat) (vs : List V) (H : Hp) (f : Fn) (e : tab.fn g = some f) (loc : Loc) (h : bindP f vs = some loc) :
    callT (n + 1) g vs H = leaveF H.length (blk n f.ks f.body loc H) := (by
  rw [callT_eq]
  show (match tab.fn g with | some f => (match bindP f vs with | some loc => leaveF H.length (execL (fun loc s H => exec tab n f.ks loc s H) f.body loc H) | Option.none => R.bad) | Option.none => R.bad) = _
  rw [e]
  show (match bindP f vs with | some loc => leaveF H.length (execL (fun loc s H => exec tab n f.ks loc s H) f.body loc H) | Option.none => R.bad) = _
  rw [h, (run_eq n).2.2.2]; rfl)
theorem bind_bind {α β γ : Type} (x : R α) (f : α → Hp → R β) (g : β → Hp → R γ) : (x.bnd f).bnd g = x.bnd fun a H => (f a H).bnd g := by induction x <;> rfl
theorem blk_app (n : Nat) (ks : Ks) (b : List St) : ∀ (a : List St) (loc : Loc) (H : Hp), blk n ks (a ++ b) loc H = (blk n ks a loc H).bnd (seqV n ks b)
  | [], loc, H => rfl
  | s :: r, loc, H => by
    rw [List.cons_append, l_cons, l_cons, bind_bind]
    congr 1
    funext x H
    obtain ⟨fl, loc'⟩ := x
    induction fl with
    | next => exact blk_app n ks b r loc' H
    | _ => rfl
theorem blk_cut (k n : Nat) (ks : Ks) (body : List St) (loc loc' : Loc) (H H' : Hp) (h : blk n ks (body.take k) loc H = .ok (.next, loc') H') :
    blk n ks body loc H = blk n ks (body.drop k) loc' H' := by
  conv => lhs; rw [← List.take_append_drop k body]
  rw [blk_app, h]; rfl
@[simp high] theorem cl_35 : callable tab (.d (.gv 35)) = true := rfl
@[simp high] theorem aq_35 (n : Nat) (vs : List V) (H : Hp) : applyC (n + 1) (.d (.gv 35)) vs H = callT n 35 vs H := rfl
@[simp high] theorem cl_39 : callable tab (.d (.gv 39)) = true := rfl
@[simp high] theorem aq_39 (n : Nat) (vs : List V) (H : Hp) : applyC (n + 1) (.d (.gv 39)) vs H = callT n 39 vs H := rfl
@[simp high] theorem cl_42 : callable tab (.d (.gv 42)) = true := rfl
@[simp high] theorem aq_42 (n : Nat) (vs : List V) (H : Hp) : applyC (n + 1) (.d (.gv 42)) vs H = callT n 42 vs H := rfl
@[simp high] theorem cl_45 : callable tab (.d (.gv 45)) = true := rfl
@[simp high] theorem aq_45 (n : Nat) (vs : List V) (H : Hp) : applyC (n + 1) (.d (.gv 45)) vs H = callT n 45 vs H := rfl
@[simp high] theorem cl_46 : callable tab (.d (.gv 46)) = true := rfl
@[simp high] theorem aq_46 (n : Nat) (vs : List V) (H : Hp) : applyC (n + 1) (.d (.gv 46)) vs H = callT n 46 vs H := rfl
@[simp high] theorem cl_47 : callable tab (.d (.gv 47)) = true := rfl
@[simp high] theorem aq_47 (n : Nat) (vs : List V) (H : Hp) : applyC (n + 1) (.d (.gv 47)) vs H = callT n 47 vs H := rfl
@[simp high] theorem cl_48 : callable tab (.d (.gv 48)) = true := rfl
@[simp high] theorem aq_48 (n : Nat) (vs : List V) (H : Hp) : applyC (n + 1) (.d (.gv 48)) vs H = callT n 48 vs H := rfl
@[simp high] theorem cl_53 : callable tab (.d (.gv 53)) = true := rfl
@[simp high] theorem aq_53 (n : Nat) (vs : List V) (H : Hp) : applyC (n + 1) (.d (.gv 53)) vs H = callT n 53 vs H := rfl
@[simp high] theorem cl_49 : callable tab (.d (.gv 49)) = true := rfl
@[simp high] theorem aq_49 (n : Nat) (vs : List V) (H : Hp) : applyC (n + 1) (.d (.gv 49)) vs H = callT n 49 vs H := rfl
@[simp high] theorem cl_50 : callable tab (.d (.gv 50)) = true := rfl
@[simp high] theorem aq_50 (n : Nat) (vs : List V) (H : Hp) : applyC (n + 1) (.d (.gv 50)) vs H = callT n 50 vs H := rfl
@[simp high] theorem cl_61 : callable tab (.d (.gv 61)) = true := rfl
@[simp high] theorem aq_61 (n : Nat) (vs : List V) (H : Hp) : applyC (n + 1) (.d (.gv 61)) vs H = callT n 61 vs H := rfl
@[simp high] theorem cl_51 : callable tab (.d (.gv 51)) = true := rfl
@[simp high] theorem aq_51 (n : Nat) (vs : List V) (H : Hp) : applyC (n + 1) (.d (.gv 51)) vs H = callT n 51 vs H := rfl
@[simp high] theorem cl_52 : callable tab (.d (.gv 52)) = true := rfl
@[simp high] theorem aq_52 (n : Nat) (vs : List V) (H : Hp) : applyC (n + 1) (.d (.gv 52)) vs H = callT n 52 vs H := rfl
@[simp high] theorem cl_54 : callable tab (.d (.gv 54)) = true := rfl
@[simp high] theorem aq_54 (n : Nat) (vs : List V) (H : Hp) : applyC (n + 1) (.d (.gv 54)) vs H = callT n 54 vs H := rfl
@[simp high] theorem cl_68 : callable tab (.d (.gv 68)) = true := rfl
@[simp high] theorem aq_68 (n : Nat) (vs : List V) (H : Hp) : applyC (n + 1) (.d (.gv 68)) vs H = callT n 68 vs H := rfl
@[simp high] theorem cl_69 : callable tab (.d (.gv 69)) = true := rfl
@[simp high] theorem aq_69 (n : Nat) (vs : List V) (H : Hp) : applyC (n + 1) (.d (.gv 69)) vs H = callT n 69 vs H := rfl
@[simp high] theorem cl_70 : callable tab (.d (.gv 70)) = true := rfl
@[simp high] theorem aq_70 (n : Nat) (vs : List V) (H : Hp) : applyC (n + 1) (.d (.gv 70)) vs H = callT n 70 vs H := rfl
@[simp high] theorem cl_72 : callable tab (.d (.gv 72)) = true := rfl
@[simp high] theorem aq_72 (n : Nat) (vs : List V) (H : Hp) : applyC (n + 1) (.d (.gv 72)) vs H = callT n 72 vs H := rfl
@[simp high] theorem cl_78 : callable tab (.d (.gv 78)) = true := rfl
@[simp high] theorem aq_78 (n : Nat) (vs : List V) (H : Hp) : applyC (n + 1) (.d (.gv 78)) vs H = callT n 78 vs H := rfl
@[simp high] theorem cl_82 : callable tab (.d (.gv 82)) = true := rfl
@[simp high] theorem aq_82 (n : Nat) (vs : List V) (H : Hp) : applyC (n + 1) (.d (.gv 82)) vs H = callT n 82 vs H := rfl
@[simp high] theorem cl_84 : callable tab (.d (.gv 84)) = true := rfl
@[simp high] theorem aq_84 (n : Nat) (vs : List V) (H : Hp) : applyC (n + 1) (.d (.gv 84)) vs H = callT n 84 vs H := rfl
@[simp high] theorem cl_86 : callable tab (.d (.gv 86)) = true := rfl
@[simp high] theorem aq_86 (n : Nat) (vs : List V) (H : Hp) : applyC (n + 1) (.d (.gv 86)) vs H = callT n 86 vs H := rfl
@[simp high] theorem cl_88 : callable tab (.d (.gv 88)) = true := rfl
@[simp high] theorem aq_88 (n : Nat) (vs : List V) (H : Hp) : applyC (n + 1) (.d (.gv 88)) vs H = callT n 88 vs H := rfl
@[simp high] theorem cl_90 : callable tab (.d (.gv 90)) = true := rfl
@[simp high] theorem aq_90 (n : Nat) (vs : List V) (H : Hp) : applyC (n + 1) (.d (.gv 90)) vs H = callT n 90 vs H := rfl
@[simp high] theorem cl_92 : callable tab (.d (.gv 92)) = true := rfl
@[simp high] theorem aq_92 (n : Nat) (vs : List V) (H : Hp) : applyC (n + 1) (.d (.gv 92)) vs H = callT n 92 vs H := rfl
@[simp high] theorem cl_94 : callable tab (.d (.gv 94)) = true := rfl
@[simp high] theorem aq_94 (n : Nat) (vs : List V) (H : Hp) : applyC (n + 1) (.d (.gv 94)) vs H = callT n 94 vs H := rfl
@[simp high] theorem cl_97 : callable tab (.d (.gv 97)) = true := rfl
@[simp high] theorem aq_97 (n : Nat) (vs : List V) (H : Hp) : applyC (n + 1) (.d (.gv 97)) vs H = callT n 97 vs H := rfl
@[simp high] theorem cl_104 : callable tab (.d (.gv 104)) = true := rfl
@[simp high] theorem aq_104 (n : Nat) (vs : List V) (H : Hp) : applyC (n + 1) (.d (.gv 104)) vs H = callT n 104 vs H := rfl
@[simp high] theorem cl_107 : callable tab (.d (.gv 107)) = true := rfl
@[simp high] theorem aq_107 (n : Nat) (vs : List V) (H : Hp) : applyC (n + 1) (.d (.gv 107)) vs H = callT n 107 vs H := rfl
@[simp high] theorem cl_108 : callable tab (.d (.gv 108)) = true := rfl
@[simp high] theorem aq_108 (n : Nat) (vs : List V) (H : Hp) : applyC (n + 1) (.d (.gv 108)) vs H = callT n 108 vs H := rfl
@[simp high] theorem cl_109 : callable tab (.d (.gv 109)) = true := rfl
@[simp high] theorem aq_109 (n : Nat) (vs : List V) (H : Hp) : applyC (n + 1) (.d (.gv 109)) vs H = callT n 109 vs H := rfl
@[simp high] theorem cl_111 : callable tab (.d (.gv 111)) = true := rfl
@[simp high] theorem aq_111 (n : Nat) (vs : List V) (H : Hp) : applyC (n + 1) (.d (.gv 111)) vs H = callT n 111 vs H := rfl
@[simp high] theorem cl_113 : callable tab (.d (.gv 113)) = true := rfl
@[simp high] theorem aq_113 (n : Nat) (vs : List V) (H : Hp) : applyC (n + 1) (.d (.gv 113)) vs H = callT n 113 vs H := rfl
@[simp high] theorem cl_114 : callable tab (.d (.gv 114)) = true := rfl
@[simp high] theorem aq_114 (n : Nat) (vs : List V) (H : Hp) : applyC (n + 1) (.d (.gv 114)) vs H = callT n 114 vs H := rfl
@[simp high] theorem cl_115 : callable tab (.d (.gv 115)) = true := rfl
@[simp high] theorem aq_115 (n : Nat) (vs : List V) (H : Hp) : applyC (n + 1) (.d (.gv 115)) vs H = callT n 115 vs H := rfl
@[simp high] theorem cl_0 : callable tab (.d (.gv 0)) = true := rfl
@[simp high] theorem aq_0 (n : Nat) (vs : List V) (H : Hp) : applyC (n + 1) (.d (.gv 0)) vs H = bltnC 0 vs H := rfl
@[simp high] theorem cl_1 : callable tab (.d (.gv 1)) = true := rfl
@[simp high] theorem aq_1 (n : Nat) (vs : List V) (H : Hp) : applyC (n + 1) (.d (.gv 1)) vs H = bltnC 1 vs H := rfl
@[simp high] theorem cl_2 : callable tab (.d (.gv 2)) = true := rfl
@[simp high] theorem aq_2 (n : Nat) (vs : List V) (H : Hp) : applyC (n + 1) (.d (.gv 2)) vs H = bltnC 2 vs H := rfl
@[simp high] theorem cl_3 : callable tab (.d (.gv 3)) = true := rfl
@[simp high] theorem aq_3 (n : Nat) (vs : List V) (H : Hp) : applyC (n + 1) (.d (.gv 3)) vs H = bltnC 3 vs H := rfl
@[simp high] theorem cl_4 : callable tab (.d (.gv 4)) = true := rfl
@[simp high] theorem aq_4 (n : Nat) (vs : List V) (H : Hp) : applyC (n + 1) (.d (.gv 4)) vs H = bltnC 4 vs H := rfl
@[simp high] theorem cl_5 : callable tab (.d (.gv 5)) = true := rfl
@[simp high] theorem aq_5 (n : Nat) (vs : List V) (H : Hp) : applyC (n + 1) (.d (.gv 5)) vs H = bltnC 5 vs H := rfl
@[simp high] theorem cl_6 : callable tab (.d (.gv 6)) = true := rfl
@[simp high] theorem aq_6 (n : Nat) (vs : List V) (H : Hp) : applyC (n + 1) (.d (.gv 6)) vs H = bltnC 6 vs H := rfl
@[simp high] theorem cl_7 : callable tab (.d (.gv 7)) = true := rfl
@[simp high] theorem aq_7 (n : Nat) (vs : List V) (H : Hp) : applyC (n + 1) (.d (.gv 7)) vs H = bltnC 7 vs H := rfl
@[simp high] theorem cl_8 : callable tab (.d (.gv 8)) = true := rfl
@[simp high] theorem aq_8 (n : Nat) (vs : List V) (H : Hp) : applyC (n + 1) (.d (.gv 8)) vs H = bltnC 8 vs H := rfl
noncomputable def hp (P : Hp) (w : O) (T : Hp) : Hp := P ++ w :: T
noncomputable def wd (rows : List D) (p : Nat) (d : Int) : O := .inst [(20, .list rows), (21, .int p), (22, .int d)]
section
variable (P T : Hp) (w w' x y : O)
@[simp high] theorem hp_get : (hp P w T)[P.length]? = some w := by simp [hp]
@[simp] theorem hp_set : (hp P w T).set P.length w' = hp P w' T := by simp [hp]
@[simp] theorem hp_app (L : Hp) : hp P w T ++ L = hp P w (T ++ L) := by simp [hp]
@[simp] theorem hp_len : (hp P w T).length = P.length + T.length + 1 := by simp [hp]; lia
@[simp] theorem hp_take : (hp P w T).take (P.length + T.length + 1) = hp P w T := by
  rw [← hp_len P T w, List.take_length]
@[simp] theorem hp_take2 (L : Hp) : (hp P w (T ++ L)).take (P.length + T.length + 1) = hp P w T := by
  have e : hp P w (T ++ L) = hp P w T ++ L := by rw [hp_app]
  rw [e, ← hp_len P T w, List.take_left]
@[simp high] theorem hp_last : (hp P w (T ++ [x]))[P.length + T.length + 1]? = some x := by
  have e : hp P w (T ++ [x]) = hp P w T ++ [x] := by rw [hp_app]
  rw [e, ← hp_len P T w, List.getElem?_append_right (Nat.le_refl _), Nat.sub_self]; rfl
@[simp] theorem hp_setlast : (hp P w (T ++ [x])).set (P.length + T.length + 1) y = hp P w (T ++ [y]) := by
  have e : hp P w (T ++ [x]) = hp P w T ++ [x] := by rw [hp_app]
  rw [e, ← hp_len P T w, List.set_append_right _ _ (Nat.le_refl _), Nat.sub_self]; exact hp_app P T w [y]
end
section
variable (P T : Hp) (rows : List D) (p : Nat) (d : Int)
@[simp] theorem att_rows : attV 20 (.loc P.length) (hp P (wd rows p d) T) = .ok (.d (.list rows)) (hp P (wd rows p d) T) := by
  simp [attV, wd, attrIds]
@[simp] theorem att_at : attV 21 (.loc P.length) (hp P (wd rows p d) T) = .ok (.d (.int p)) (hp P (wd rows p d) T) := by
  simp [attV, wd, attrIds]
@[simp] theorem att_deep : attV 22 (.loc P.length) (hp P (wd rows p d) T) = .ok (.d (.int d)) (hp P (wd rows p d) T) := by
  simp [attV, wd, attrIds]
theorem pe_e (hl : rows.length ≤ 1000) (H : Hp) : bltnC 0 [.d (.list rows)] H = .ok (.d (.int rows.length)) H := by
  rw [bltnC_eq]
  have e2 : decide (rows.length ≤ line) = true := by
    unfold line
    simp only [decide_eq_true_eq]; lia
  show R.guard (decide (rows.length ≤ line)) (retI rows.length H) = _
  rw [e2]; rfl
theorem pe_i (k : Nat) (hb : p + k < rows.length) (H : Hp) : bltnC 1 [.d (.int ((p : Int) + k)), .d (.int ((rows.length : Int) - 1))] H = .ok (.d (.int ((p : Int) + k))) H := by
  rw [bltnC_eq]
  show retI (if (rows.length : Int) - 1 < (p : Int) + k then _ else _) H = _
  rw [if_neg (by lia)]
  rfl
theorem big_lt {x : Int} (h : x < 2000) : x < 9223372036854775808 := Int.lt_of_lt_of_le h (by decide)
theorem pe_x1 (k : Nat) (hb : p + k < 1000) : (decide (0 ≤ (p : Int) + k) && decide ((p : Int) + k < 9223372036854775808)) = true := by
  rw [decide_eq_true (by lia), decide_eq_true (big_lt (by lia))]
  rfl
theorem idxL (l : List D) (k : Int) (H : Hp) : idxC (.d (.list l)) (.d (.int k)) H = R.guard (decide (0 ≤ k) && decide (k < 9223372036854775808)) (R.opt l[k.toNat]? fun x => .ok (.d x) H) := by simp only [binC_eq, idxC_eq, bltnC_eq, slC_eq, strC_eq]; rfl
theorem pe_x (k : Nat) (t : D) (h : rows[p + k]? = some t) (hb : p + k < 1000) (H : Hp) : idxC (.d (.list rows)) (.d (.int ((p : Int) + k))) H = .ok (.d t) H := by
  have e1 : ((p : Int) + k).toNat = p + k := by lia
  rw [idxL, pe_x1 p k hb, e1, h]
  rfl
@[simp] theorem idx0 (l : List D) (a : D) (H : Hp) : idxC (.d (.tup (a :: l))) (.d (.int 0)) H = .ok (.d a) H := rfl
@[simp] theorem idx1 (l : List D) (a b : D) (H : Hp) : idxC (.d (.tup (b :: a :: l))) (.d (.int 1)) H = .ok (.d a) H := rfl
@[simp] theorem idx2 (l : List D) (a b c : D) (H : Hp) : idxC (.d (.tup (c :: b :: a :: l))) (.d (.int 2)) H = .ok (.d a) H := rfl
@[simp] theorem idx3 (l : List D) (a b c d : D) (H : Hp) : idxC (.d (.tup (d :: c :: b :: a :: l))) (.d (.int 3)) H = .ok (.d a) H := rfl
@[simp] theorem idx4 (l : List D) (a b c d e : D) (H : Hp) : idxC (.d (.tup (e :: d :: c :: b :: a :: l))) (.d (.int 4)) H = .ok (.d a) H := rfl
@[simp] theorem idx5 (l : List D) (a b c d e f : D) (H : Hp) : idxC (.d (.tup (f :: e :: d :: c :: b :: a :: l))) (.d (.int 5)) H = .ok (.d a) H := rfl
@[simp] theorem c_eqS (a b : Str) (H : Hp) : cmpV .Eq (.d (.str a)) (.d (.str b)) H = some (decide (a = b)) := rfl
@[simp] theorem c_eqI (a b : Int) (H : Hp) : cmpV .Eq (.d (.int a)) (.d (.int b)) H = some (decide (a = b)) := rfl
@[simp] theorem c_eqB (a b : Bool) (H : Hp) : cmpV .Eq (.d (.bool a)) (.d (.bool b)) H = some (a == b) := rfl
@[simp] theorem c_neS (a b : Str) (H : Hp) : cmpV .NotEq (.d (.str a)) (.d (.str b)) H = some (!decide (a = b)) := rfl
@[simp] theorem c_lt (a b : Int) (H : Hp) : cmpV .Lt (.d (.int a)) (.d (.int b)) H = some (decide (a < b)) := rfl
@[simp] theorem c_le (a b : Int) (H : Hp) : cmpV .LtE (.d (.int a)) (.d (.int b)) H = some (decide (a ≤ b)) := rfl
@[simp] theorem c_gt (a b : Int) (H : Hp) : cmpV .Gt (.d (.int a)) (.d (.int b)) H = some (decide (b < a)) := rfl
@[simp] theorem c_ge (a b : Int) (H : Hp) : cmpV .GtE (.d (.int a)) (.d (.int b)) H = some (decide (b ≤ a)) := rfl
@[simp] theorem c_is0 (H : Hp) : cmpV .Is (.d .none) (.d .none) H = some true := rfl
@[simp] theorem c_isi (i : Int) (H : Hp) : cmpV .Is (.d (.int i)) (.d .none) H = some false := rfl
@[simp] theorem c_iss (i : Str) (H : Hp) : cmpV .Is (.d (.str i)) (.d .none) H = some false := rfl
@[simp] theorem c_isn0 (H : Hp) : cmpV .IsNot (.d .none) (.d .none) H = some false := rfl
@[simp] theorem c_isni (i : Int) (H : Hp) : cmpV .IsNot (.d (.int i)) (.d .none) H = some true := rfl
@[simp] theorem c_isns (i : Str) (H : Hp) : cmpV .IsNot (.d (.str i)) (.d .none) H = some true := rfl
@[simp] theorem c_in (a : Str) (l : List D) (H : Hp) : cmpV .In (.d (.str a)) (.d (.tup l)) H = inSeq a l := rfl
@[simp] theorem c_inL (a : Str) (l : List D) (H : Hp) : cmpV .In (.d (.str a)) (.d (.list l)) H = inSeq a l := rfl
@[simp] theorem c_nin (a : Str) (l : List D) (H : Hp) : cmpV .NotIn (.d (.str a)) (.d (.tup l)) H = (inSeq a l).map (!·) := rfl
@[simp] theorem c_ninL (a : Str) (l : List D) (H : Hp) : cmpV .NotIn (.d (.str a)) (.d (.list l)) H = (inSeq a l).map (!·) := rfl
@[simp] theorem b_addI (a b : Int) (H : Hp) : binC .Add (.d (.int a)) (.d (.int b)) H = .ok (.d (.int (a + b))) H := rfl
@[simp] theorem b_subI (a b : Int) (H : Hp) : binC .Sub (.d (.int a)) (.d (.int b)) H = .ok (.d (.int (a - b))) H := rfl
@[simp] theorem a_addI (a b : Int) (H : Hp) : augV .Add (.d (.int a)) (.d (.int b)) H = .ok (.d (.int (a + b))) H := rfl
@[simp] theorem a_subI (a b : Int) (H : Hp) : augV .Sub (.d (.int a)) (.d (.int b)) H = .ok (.d (.int (a - b))) H := rfl
noncomputable abbrev sg (s : String) : D := .str (Str.ofString s)
@[simp] theorem ofS_inj (a b : String) : (Str.ofString a = Str.ofString b) = (a = b) := by
  apply propext
  constructor
  · intro h
    rw [Str.ofString_eq_toList, Str.ofString_eq_toList] at h
    have h1 : a.toList.map Char.toNat = b.toList.map Char.toNat := by simpa using congrArg (fun x : Str => x.cps.toList) h
    have h2 : a.toList = b.toList := (List.map_inj_right (fun x y e => Char.toNat_inj.mp e)).mp h1
    exact String.toList_inj.mp h2
  · intro h; rw [h]
@[simp high] theorem met_23 (n : Nat) (ks : Ks) (loc : Loc) (args : List Ex) : metV n ks loc 23 args (.loc P.length) (hp P (wd rows p d) T) = (lisE n ks loc args (hp P (wd rows p d) T)).bnd (metK n 1023 P.length) := by
  rw [metV_loc, hp_get]; rfl
@[simp high] theorem met_25 (n : Nat) (ks : Ks) (loc : Loc) (args : List Ex) : metV n ks loc 25 args (.loc P.length) (hp P (wd rows p d) T) = (lisE n ks loc args (hp P (wd rows p d) T)).bnd (metK n 1025 P.length) := by
  rw [metV_loc, hp_get]; rfl
@[simp high] theorem met_26 (n : Nat) (ks : Ks) (loc : Loc) (args : List Ex) : metV n ks loc 26 args (.loc P.length) (hp P (wd rows p d) T) = (lisE n ks loc args (hp P (wd rows p d) T)).bnd (metK n 1026 P.length) := by
  rw [metV_loc, hp_get]; rfl
@[simp high] theorem met_28 (n : Nat) (ks : Ks) (loc : Loc) (args : List Ex) : metV n ks loc 28 args (.loc P.length) (hp P (wd rows p d) T) = (lisE n ks loc args (hp P (wd rows p d) T)).bnd (metK n 1028 P.length) := by
  rw [metV_loc, hp_get]; rfl
@[simp high] theorem met_30 (n : Nat) (ks : Ks) (loc : Loc) (args : List Ex) : metV n ks loc 30 args (.loc P.length) (hp P (wd rows p d) T) = (lisE n ks loc args (hp P (wd rows p d) T)).bnd (metK n 1030 P.length) := by
  rw [metV_loc, hp_get]; rfl
@[simp high] theorem met_32 (n : Nat) (ks : Ks) (loc : Loc) (args : List Ex) : metV n ks loc 32 args (.loc P.length) (hp P (wd rows p d) T) = (lisE n ks loc args (hp P (wd rows p d) T)).bnd (metK n 1032 P.length) := by
  rw [metV_loc, hp_get]; rfl
@[simp high] theorem met_33 (n : Nat) (ks : Ks) (loc : Loc) (args : List Ex) : metV n ks loc 33 args (.loc P.length) (hp P (wd rows p d) T) = (lisE n ks loc args (hp P (wd rows p d) T)).bnd (metK n 1033 P.length) := by
  rw [metV_loc, hp_get]; rfl
theorem peekK (n k : Nat) (t : D) (h : rows[p + k]? = some t) (hl : rows.length ≤ 1000) :
    callT (n + 8) 1025 [.loc P.length, .d (.int k)] (hp P (wd rows p d) T) = .ok (.d t) (hp P (wd rows p d) T) := by
  have hb := (List.getElem?_eq_some_iff.mp h).1
  have e := pe_e rows hl
  have ei := pe_i rows p k hb
  have ex := pe_x rows p k t h (by lia)
  rw [cf _ _ _ _ f1025 (by rfl) _ (by rfl)]
  simp [-BEq.rfl, f1025, e, ei, ex]
theorem peek (n : Nat) (t : D) (h : rows[p]? = some t) (hl : rows.length ≤ 1000) :
    callT (n + 8) 1025 [.loc P.length] (hp P (wd rows p d) T) = .ok (.d t) (hp P (wd rows p d) T) := by
  have h2 := peekK P T rows p d n 0 t h hl
  rw [cf _ _ _ _ f1025 (by rfl) _ (by rfl)] at h2 ⊢
  exact h2
@[simp] theorem w_meth (n : Nat) (ks : Ks) (loc : Loc) (m f : Nat) (args : List Ex) (H : Hp) (hm : tab.meth m = some f) (h : (20 == m || 21 == m || 22 == m) = false) :
    metL n ks loc P.length m args H (some (wd rows p d)) = (lisE n ks loc args H).bnd (metK n f P.length) := by
  have e : List.lookup m [(20, D.list rows), (21, D.int p), (22, D.int d)] = none := by
    simp at h
    simp [lk, show (m == 20) = false by simp; lia, show (m == 21) = false by simp; lia, show (m == 22) = false by simp; lia]
  unfold metL wd
  simp only [hm, e]
@[simp] theorem augL_at (n i : Nat) (ks : Ks) (loc : Loc) (op : Operator) (e : Ex) (H : Hp) : augL n ks loc i 21 op e H (some (wd rows p d)) = (evalC n ks loc e H).bnd (augK loc 21 i op (.int p)) := rfl
@[simp] theorem augL_deep (n i : Nat) (ks : Ks) (loc : Loc) (op : Operator) (e : Ex) (H : Hp) : augL n ks loc i 22 op e H (some (wd rows p d)) = (evalC n ks loc e H).bnd (augK loc 22 i op (.int d)) := rfl
@[simp] theorem augQ_at (i : Nat) (loc : Loc) (H : Hp) : augQ 21 i (.d (.int ((p : Int) + 1))) (some (wd rows p d)) loc H = .ok (.next, loc) (H.set i (wd rows (p + 1) d)) := rfl
@[simp] theorem augQ_deep (i : Nat) (loc : Loc) (x : Int) (H : Hp) : augQ 22 i (.d (.int x)) (some (wd rows p d)) loc H = .ok (.next, loc) (H.set i (wd rows p x)) := rfl
end
end
end Mine.P
end
section
namespace Mine.P
open PySem
noncomputable section
section
variable (P T : Hp) (rows : List D) (p : Nat) (d : Int)
theorem len_of (x : String) : (Str.ofString x).length = x.length := by
  rw [Str.ofString_eq_toList]; simp [Str.length, String.length_toList]
theorem take (n : Nat) (a : String) (t : List D) (h : rows[p]? = some (.tup (sg a :: t))) (ha : a ≠ "end") (hl : rows.length ≤ 1000) :
    callT (n + 11) 1028 [.loc P.length] (hp P (wd rows p d) T) = .ok (.d (.tup (sg a :: t))) (hp P (wd rows (p + 1) d) T) := by
  rw [cf _ _ _ _ f1028 (by rfl) _ (by rfl)]
  have e := fun n => peek P T rows p d n _ h hl
  simp [-BEq.rfl, f1028, e, ha]
noncomputable def lookB (a b x : String) : Bool := (decide (a = "sign") || decide (a = "name")) && decide (b = x)
theorem inSeq_c (x : Str) (y : Str) (l : List D) : inSeq x (.str y :: l) = (inSeq x l).map fun b => decide (y = x) || b := by
  show ((strsOf l).map (y :: ·)).map (fun ss => ss.any (· == x)) = ((strsOf l).map fun ss => ss.any (· == x)).map _
  cases strsOf l with
  | none => rfl
  | some v => exact congrArg some (List.any_cons ..)
theorem inSeq_0 (x : Str) : inSeq x [] = some false := rfl
theorem looksK (n k : Nat) (a b x : String) (t : List D) (h : rows[p + k]? = some (.tup (sg a :: sg b :: t))) (hl : rows.length ≤ 1000) :
    callT (n + 11) 1030 [.loc P.length, .d (sg x), .d (.int k)] (hp P (wd rows p d) T) = .ok (.d (.bool (lookB a b x))) (hp P (wd rows p d) T) := by
  revert h hl; revert P T rows p d n k a b x t
  refine @(eps10 (P := ?P) (dH, dH, du, dN, dI, dN, dN, (default : String), (default : String), (default : String)) rfl ((?m : Pi10 ?P) _ _ _ _ _ _ _ _ _ _))
  intro P T rows p d n k a b x t h hl
  rw [cf _ _ _ _ f1030 (by rfl) _ (by rfl)]
  have e := fun n => peekK P T rows p d n k _ h hl
  simp [-BEq.rfl, f1030, e, inSeq_c, inSeq_0, lookB]
  by_cases h1 : a = "sign" <;> by_cases h2 : a = "name" <;> by_cases h3 : b = x <;> simp_all [eq_comm]
theorem looks (n : Nat) (a b x : String) (t : List D) (h : rows[p]? = some (.tup (sg a :: sg b :: t))) (hl : rows.length ≤ 1000) :
    callT (n + 11) 1030 [.loc P.length, .d (sg x)] (hp P (wd rows p d) T) = .ok (.d (.bool (lookB a b x))) (hp P (wd rows p d) T) := by
  have h2 := looksK P T rows p d n 0 a b x t h hl
  rw [cf _ _ _ _ f1030 (by rfl) _ (by rfl)] at h2 ⊢
  exact h2
theorem looks1 (n : Nat) (a b x : String) (t : List D) (h : rows[p + 1]? = some (.tup (sg a :: sg b :: t))) (hl : rows.length ≤ 1000) :
    callT (n + 11) 1030 [.loc P.length, .d (sg x), .d (.int 1)] (hp P (wd rows p d) T) = .ok (.d (.bool (lookB a b x))) (hp P (wd rows p d) T) :=
  looksK P T rows p d n 1 a b x t h hl
theorem expect (n : Nat) (a x : String) (t : List D) (h : rows[p]? = some (.tup (sg a :: sg x :: t))) (ha : a = "sign" ∨ a = "name") (hl : rows.length ≤ 1000) :
    callT (n + 16) 1032 [.loc P.length, .d (sg x)] (hp P (wd rows p d) T) = .ok (.d (.tup (sg a :: sg x :: t))) (hp P (wd rows (p + 1) d) T) := by
  rw [cf _ _ _ _ f1032 (by rfl) _ (by rfl)]
  have e := fun n => looks P T rows p d n _ _ x _ h hl
  have e2 := fun n => take P T rows p d n _ _ h (by rcases ha with h | h <;> rw [h] <;> decide) hl
  have e3 : lookB a x x = true := by rcases ha with h | h <;> simp [h, lookB]
  simp [-BEq.rfl, f1032, e, e2, e3]
theorem expectN (n : Nat) (a b x : String) (s : D) (t : List D) (h : rows[p]? = some (.tup (sg a :: sg b :: s :: t))) (hb : lookB a b x = false) (hx : x.length < 10) (hl : rows.length ≤ 1000) :
    callT (n + 16) 1032 [.loc P.length, .d (sg x)] (hp P (wd rows p d) T) = .exc (Str.ofString x ++ Str.ofString " is missing") s (hp P (wd rows p d) T) := by
  rw [cf _ _ _ _ f1032 (by rfl) _ (by rfl)]
  have e := fun n => looks P T rows p d n _ _ x _ h hl
  have e2 := fun n => peek P T rows p d n _ h hl
  have e3 (H : Hp) : binC .Add (.d (sg x)) (.d (sg " is missing")) H = .ok (.d (.str (Str.ofString x ++ Str.ofString " is missing"))) H := by
    have e4 : (decide ((Str.ofString x).length + (Str.ofString " is missing").length ≤ line)) = true := by
      rw [len_of, len_of, show " is missing".length = 11 by decide]; unfold line; simp only [decide_eq_true_eq]; lia
    simp only [binC_eq, idxC_eq, bltnC_eq, slC_eq, strC_eq]
    show R.guard _ _ = _
    rw [e4]; rfl
  simp [-BEq.rfl, f1032, e, e2, e3, hb]
theorem name (n : Nat) (b : String) (s : D) (t : List D) (h : rows[p]? = some (.tup (sg "name" :: sg b :: s :: t))) (hb : inSeq (Str.ofString b) (strsD keywordsL) = some false) (hl : rows.length ≤ 1000) :
    callT (n + 11) 1033 [.loc P.length] (hp P (wd rows p d) T) = .ok (.d (.tup [sg b, s])) (hp P (wd rows (p + 1) d) T) := by
  rw [cf _ _ _ _ f1033 (by rfl) _ (by rfl)]
  have e := fun n => peek P T rows p d n _ h hl
  simp [-BEq.rfl, f1033, e, hb]
theorem deeper (n : Nat) (hd : d < 60) : callT (n + 6) 1023 [.loc P.length] (hp P (wd rows p d) T) = .ok (.d .none) (hp P (wd rows p (d + 1)) T) := by
  rw [cf _ _ _ _ f1023 (by rfl) _ (by rfl)]
  simp [-BEq.rfl, f1023, show ¬ (60 < d + 1) by lia]
theorem shallower (n : Nat) : callT (n + 6) 1026 [.loc P.length] (hp P (wd rows p d) T) = .ok (.d .none) (hp P (wd rows p (d - 1)) T) := by
  rw [cf _ _ _ _ f1026 (by rfl) _ (by rfl)]
  simp [-BEq.rfl, f1026]
noncomputable abbrev tkI (b : String) (s k : Int) : D := .tup [sg "int", sg b, .int s, .int k, .none]
noncomputable abbrev tkU (b : String) (s k : Int) : D := .tup [sg "int", sg b, .int s, .int k, sg "u8"]
noncomputable abbrev tkS (b : String) (s : Int) : D := .tup [sg "sign", sg b, .int s, .none, .none]
noncomputable abbrev tkN (b : String) (s : Int) : D := .tup [sg "name", sg b, .int s, .none, .none]
theorem wholeP (n : Nat) (b : String) (s : Int) (k : Int) (h : rows[p]? = some (tkI b s k)) (hl : rows.length ≤ 1000) :
    callT (n + 15) 61 [.loc P.length] (hp P (wd rows p d) T) = .ok (.d (.int k)) (hp P (wd rows (p + 1) d) T) := by
  rw [cf _ _ _ _ f61 (by rfl) _ (by rfl)]
  have e := fun n x => looks P T rows p d n _ _ x _ h hl
  have e2 := fun n => take P T rows p d n _ _ h (by decide) hl
  simp [-BEq.rfl, f61, e, e2, lookB]
theorem wholeM (n : Nat) (b : String) (s s' : Int) (k : Int) (h : rows[p]? = some (tkS "-" s)) (h2 : rows[p + 1]? = some (tkI b s' k)) (hl : rows.length ≤ 1000) :
    callT (n + 15) 61 [.loc P.length] (hp P (wd rows p d) T) = .ok (.d (.int (0 - k))) (hp P (wd rows (p + 2) d) T) := by
  rw [cf _ _ _ _ f61 (by rfl) _ (by rfl)]
  have e := fun n x => looks P T rows p d n _ _ x _ h hl
  have e2 := fun n => take P T rows p d n _ _ h (by decide) hl
  have e3 := fun n => take P T rows (p + 1) d n _ _ h2 (by decide) hl
  simp [-BEq.rfl, f61, e, e2, e3, lookB]
theorem numberP (n : Nat) (a b c : String) (s k : Int) (t : List D) (h : rows[p]? = some (tkI b s k)) (h2 : rows[p + 1]? = some (.tup (sg a :: sg c :: t))) (hc : lookB a c "..=" = false) (hl : rows.length ≤ 1000) :
    callT (n + 20) 51 [.loc P.length] (hp P (wd rows p d) T) = .ok (.d (.tup [sg "lit", .int s, .int k])) (hp P (wd rows (p + 1) d) T) := by
  rw [cf _ _ _ _ f51 (by rfl) _ (by rfl)]
  have e := fun n => peek P T rows p d n _ h hl
  have e2 := fun n => wholeP P T rows p d n _ _ _ h hl
  have e3 := fun n x => looks P T rows (p + 1) d n _ _ x _ h2 hl
  simp [-BEq.rfl, f51, e, e2, e3, hc]
theorem numberM (n : Nat) (a b c : String) (s s' k : Int) (t : List D) (h : rows[p]? = some (tkS "-" s)) (h1 : rows[p + 1]? = some (tkI b s' k)) (h2 : rows[p + 2]? = some (.tup (sg a :: sg c :: t))) (hc : lookB a c "..=" = false) (hl : rows.length ≤ 1000) :
    callT (n + 20) 51 [.loc P.length] (hp P (wd rows p d) T) = .ok (.d (.tup [sg "lit", .int s, .int (0 - k)])) (hp P (wd rows (p + 2) d) T) := by
  rw [cf _ _ _ _ f51 (by rfl) _ (by rfl)]
  have e := fun n => peek P T rows p d n _ h hl
  have e2 := fun n => wholeM P T rows p d n _ _ _ _ h h1 hl
  have e3 := fun n x => looks P T rows (p + 2) d n _ _ x _ h2 hl
  simp [-BEq.rfl, f51, e, e2, e3, hc]
theorem numberR (n : Nat) (b c : String) (s s' s2 k k2 : Int) (h : rows[p]? = some (tkI b s k)) (h1 : rows[p + 1]? = some (tkS "..=" s')) (h2 : rows[p + 2]? = some (tkI c s2 k2)) (hl : rows.length ≤ 1000) :
    callT (n + 20) 51 [.loc P.length] (hp P (wd rows p d) T) = .ok (.d (.tup [sg "range", .int s, .int k, .int k2])) (hp P (wd rows (p + 3) d) T) := by
  rw [cf _ _ _ _ f51 (by rfl) _ (by rfl)]
  have e := fun n => peek P T rows p d n _ h hl
  have e2 := fun n => wholeP P T rows p d n _ _ _ h hl
  have e3 := fun n x => looks P T rows (p + 1) d n _ _ x _ h1 hl
  have e4 := fun n => take P T rows (p + 1) d n _ _ h1 (by decide) hl
  have e5 := fun n => wholeP P T rows (p + 2) d n _ _ _ h2 hl
  simp [-BEq.rfl, f51, e, e2, e3, e4, e5, lookB]
theorem plain (n : Nat) (b : String) (t : List D) (H : Hp) (hb : inSeq (Str.ofString b) (strsD keywordsL) = some false) :
    callT (n + 6) 45 [.d (.tup (sg "name" :: sg b :: t))] H = .ok (.d (.bool true)) H := by
  rw [cf _ _ _ _ f45 (by rfl) _ (by rfl)]
  simp [-BEq.rfl, f45, hb]
theorem plainN (n : Nat) (a b : String) (t : List D) (H : Hp) (ha : a ≠ "name") :
    callT (n + 6) 45 [.d (.tup (sg a :: sg b :: t))] H = .ok (.d (.bool false)) H := by
  rw [cf _ _ _ _ f45 (by rfl) _ (by rfl)]
  simp [-BEq.rfl, f45, ha]
theorem plainK (n : Nat) (b : String) (t : List D) (H : Hp) (hb : inSeq (Str.ofString b) (strsD keywordsL) = some true) :
    callT (n + 6) 45 [.d (.tup (sg "name" :: sg b :: t))] H = .ok (.d (.bool false)) H := by
  rw [cf _ _ _ _ f45 (by rfl) _ (by rfl)]
  simp [-BEq.rfl, f45, hb]
theorem binding (n : Nat) (a b c : String) (s : Int) (t : List D) (h : rows[p]? = some (tkN b s)) (hb : inSeq (Str.ofString b) (strsD keywordsL) = some false)
    (hr : b ≠ "ref") (hm : b ≠ "mut") (h2 : rows[p + 1]? = some (.tup (sg a :: sg c :: t))) (hc : lookB a c "@" = false) (hl : rows.length ≤ 1000) :
    callT (n + 15) 52 [.loc P.length] (hp P (wd rows p d) T) = .ok (.d (.tup [sg "name", .int s, sg b, .bool false, .bool false, .none])) (hp P (wd rows (p + 1) d) T) := by
  rw [cf _ _ _ _ f52 (by rfl) _ (by rfl)]
  have e := fun n => peek P T rows p d n _ h hl
  have e2 := fun n => name P T rows p d n _ _ _ h hb hl
  have e3 := fun n x => looks P T rows p d n _ _ x _ h hl
  have e4 := fun n x => looks P T rows (p + 1) d n _ _ x _ h2 hl
  have l1 : lookB "name" b "ref" = false := by simp [lookB, hr]
  have l2 : lookB "name" b "mut" = false := by simp [lookB, hm]
  simp [-BEq.rfl, f52, e, e2, e3, e4, l1, l2, hc]
end
end
end Mine.P
end
section
namespace Mine.P
open PySem
noncomputable section
noncomputable def forS (f : Loc → Hp → R (Fl × Loc)) (y : Fl × Loc) (H : Hp) : R (Fl × Loc) := match y.1 with
      | .next => f y.2 H
      | .cont => f y.2 H
      | .brk => .ok (.next, y.2) H
      | .ret v => .ok (.ret v, y.2) H
noncomputable def forD (b : D → Loc → Hp → R (Fl × Loc)) : List D → Loc → Hp → R (Fl × Loc)
  | [], loc, H => .ok (.next, loc) H
  | x :: r, loc, H => (b x loc H).bnd (forS (forD b r))
@[simp] theorem forS_next (f : Loc → Hp → R (Fl × Loc)) (l : Loc) (H : Hp) : forS f (.next, l) H = f l H := rfl
@[simp] theorem forS_ret (f : Loc → Hp → R (Fl × Loc)) (l : Loc) (v : V) (H : Hp) : forS f (.ret v, l) H = .ok (.ret v, l) H := rfl
@[simp] theorem forS_brk (f : Loc → Hp → R (Fl × Loc)) (l : Loc) (H : Hp) : forS f (.brk, l) H = .ok (.next, l) H := rfl
@[simp] theorem forD_nil (b : D → Loc → Hp → R (Fl × Loc)) (l : Loc) (H : Hp) : forD b [] l H = .ok (.next, l) H := rfl
@[simp] theorem forD_cons (b : D → Loc → Hp → R (Fl × Loc)) (x : D) (r : List D) (l : Loc) (H : Hp) : forD b (x :: r) l H = (b x l H).bnd (forS (forD b r)) := rfl
theorem forL_D (src : V) (l : List D) (hs : ∀ H i, nextItem H src i = some l[i]?) (b : D → Loc → Hp → R (Fl × Loc)) :
    ∀ (m k i : Nat) (loc : Loc) (H : Hp), l.length = i + m → m < k → forL src b k i loc H = forD b (l.drop i) loc H := by
  intro m
  induction m with
  | zero =>
    intro k i loc H hl hk
    obtain ⟨k', rfl⟩ : ∃ k', k = k' + 1 := ⟨k - 1, by lia⟩
    have e : l.drop i = [] := List.drop_eq_nil_of_le (by lia)
    rw [e, forL_succ, hs, List.getElem?_eq_none (by lia)]
    rfl
  | succ m ih =>
    intro k i loc H hl hk
    obtain ⟨k', rfl⟩ : ∃ k', k = k' + 1 := ⟨k - 1, by lia⟩
    have hi : i < l.length := by lia
    rw [List.drop_eq_getElem_cons hi, forL_succ, hs, List.getElem?_eq_getElem hi]
    show R.bnd _ _ = R.bnd _ _
    congr 1
    funext y H
    unfold forS
    rcases y with ⟨fl, loc'⟩
    induction fl <;> simp [ih k' (i + 1) loc' H (by lia) (by lia)]
noncomputable def forV (T : Tab) (n : Nat) (ks : Ks) (x : Nat) (b : List St) (loc : Loc) (src : V) (H : Hp) : R (Fl × Loc) := R.guard (isStC ks x)
        (forL src (fun d loc H => execL (fun loc s H => execC n ks loc s H) b (setLc loc x (.d d)) H) LK 0 loc H).only
@[simp] theorem s_for (n : Nat) (ks : Ks) (loc : Loc) (x : Nat) (iter : Ex) (b : List St) (H : Hp) : execC (n + 1) ks loc (.for_ x iter b) H =
    (evalC n ks loc iter H).bnd (forV tab n ks x b loc) := (rfl)
noncomputable def bodyD (n : Nat) (ks : Ks) (x : Nat) (b : List St) (d : D) (loc : Loc) (H : Hp) : R (Fl × Loc) := blk n ks b (setLc loc x (.d d)) H
theorem forV_D (n : Nat) (ks : Ks) (x : Nat) (b : List St) (loc : Loc) (src : V) (H : Hp) (l : List D) (hs : ∀ H i, nextItem H src i = some l[i]?) (hl : l.length < 100000) :
    forV tab n ks x b loc src H = R.guard (isStC ks x) (forD (bodyD n ks x b) l loc H).only := by
  unfold forV
  rw [forL_D src l hs _ l.length LK 0 loc H (by lia) hl]
  rfl
theorem forV_tup (n : Nat) (ks : Ks) (x : Nat) (b : List St) (loc : Loc) (l : List D) (H : Hp) (hl : l.length < 100000) :
    forV tab n ks x b loc (.d (.tup l)) H = R.guard (isStC ks x) (forD (bodyD n ks x b) l loc H).only := forV_D n ks x b loc _ H l (fun _ _ => rfl) hl
theorem forV_list (n : Nat) (ks : Ks) (x : Nat) (b : List St) (loc : Loc) (l : List D) (H : Hp) (hl : l.length < 100000) :
    forV tab n ks x b loc (.d (.list l)) H = R.guard (isStC ks x) (forD (bodyD n ks x b) l loc H).only := forV_D n ks x b loc _ H l (fun _ _ => rfl) hl
theorem forV_rng (n : Nat) (ks : Ks) (x : Nat) (b : List St) (loc : Loc) (m : Nat) (H : Hp) (hl : m < 100000) :
    forV tab n ks x b loc (.d (.rng m)) H = R.guard (isStC ks x) (forD (bodyD n ks x b) ((List.range m).map fun i : Nat => .int (i : Int)) loc H).only := by
  refine forV_D n ks x b loc _ H _ (fun H i => ?_) (by simpa using hl)
  have e : (decide ((0 : Int) ≤ (m : Int)) && decide ((m : Int) ≤ 1000000)) = true := by
    simp only [Bool.and_eq_true, decide_eq_true_eq]; lia
  show (if (decide ((0 : Int) ≤ (m : Int)) && decide ((m : Int) ≤ 1000000)) = true then _ else _) = _
  rw [if_pos e]
  by_cases h : i < m
  · rw [if_pos (by lia)]; simp [h]
  · rw [if_neg (by lia)]; simp [h]
section
variable (P T : Hp) (rows : List D) (p : Nat) (d : Int)
theorem alone (n : Nat) (a c : String) (t : List D) (h : rows[p + 1]? = some (.tup (sg a :: sg c :: t))) (hl : rows.length ≤ 1000) :
    callT (n + 16) 53 [.loc P.length] (hp P (wd rows p d) T) = .ok (.d (.bool (!(lookB a c "::" || lookB a c "(" || lookB a c "{")))) (hp P (wd rows p d) T) := by
  rw [cf _ _ _ _ f53 (by rfl) _ (by rfl)]
  have e := fun n x => looks1 P T rows p d n _ _ x _ h hl
  cases h1 : lookB a c "::" <;> cases h2 : lookB a c "(" <;> cases h3 : lookB a c "{" <;> simp [-BEq.rfl, f53, forV_tup, bodyD, e, h1, h2, h3]
end
inductive Wd where
  | n (k : Nat)
  | u (k : Nat)
  | s (x : String)
noncomputable def nameL : List String := ["_", "true", "false", "a", "b_", "b", "c", "mut", "P", "Q", "Self", "A", "x"]
noncomputable def Wd.text : Wd → String
  | .n k => Nat.repr k
  | .u k => Nat.repr k ++ "u8"
  | .s x => x
noncomputable def kind (x : String) : String := if nameL.contains x then "name" else "sign"
noncomputable def Wd.tok (s : Int) : Wd → D
  | .n k => tkI (Nat.repr k) s k
  | .u k => tkU (Nat.repr k ++ "u8") s 7
  | .s x => .tup [sg (kind x), sg x, .int s, .none, .none]
@[simp] theorem kd_n0 : kind "_" = "name" := by decide
@[simp] theorem kd_n1 : kind "true" = "name" := by decide
@[simp] theorem kd_n2 : kind "false" = "name" := by decide
@[simp] theorem kd_n3 : kind "a" = "name" := by decide
@[simp] theorem kd_n4 : kind "b_" = "name" := by decide
@[simp] theorem kd_n5 : kind "b" = "name" := by decide
@[simp] theorem kd_n6 : kind "c" = "name" := by decide
@[simp] theorem kd_n7 : kind "mut" = "name" := by decide
@[simp] theorem kd_n8 : kind "P" = "name" := by decide
@[simp] theorem kd_n9 : kind "Q" = "name" := by decide
@[simp] theorem kd_n10 : kind "Self" = "name" := by decide
@[simp] theorem kd_n11 : kind "A" = "name" := by decide
@[simp] theorem kd_n12 : kind "x" = "name" := by decide
@[simp] theorem kd_s0 : kind "|" = "sign" := by decide
@[simp] theorem kd_s1 : kind "," = "sign" := by decide
@[simp] theorem kd_s2 : kind ")" = "sign" := by decide
@[simp] theorem kd_s3 : kind "(" = "sign" := by decide
@[simp] theorem kd_s4 : kind "-" = "sign" := by decide
@[simp] theorem kd_s5 : kind "..=" = "sign" := by decide
@[simp] theorem kd_s6 : kind "&" = "sign" := by decide
@[simp] theorem kd_s7 : kind "&&" = "sign" := by decide
@[simp] theorem kd_s8 : kind "::" = "sign" := by decide
@[simp] theorem kd_s9 : kind "{" = "sign" := by decide
@[simp] theorem kd_s10 : kind "}" = "sign" := by decide
@[simp] theorem kd_s11 : kind ":" = "sign" := by decide
@[simp] theorem kd_s12 : kind "@" = "sign" := by decide
@[simp] theorem kd_s13 : kind ".." = "sign" := by decide
@[simp] theorem kd_s14 : kind "" = "sign" := by decide
@[simp] theorem tok_n (s : Int) (k : Nat) : Wd.tok s (.n k) = tkI (Nat.repr k) s k := rfl
@[simp] theorem tok_s (s : Int) (x : String) : Wd.tok s (.s x) = .tup [sg (kind x), sg x, .int s, .none, .none] := rfl
noncomputable def toks (sp : Nat → Int) : Nat → List Wd → List D
  | _, [] => []
  | i, w :: ws => w.tok (sp i) :: toks sp (i + 1) ws
@[simp high] theorem toks_n (sp : Nat → Int) (i : Nat) : toks sp i [] = [] := rfl
@[simp high] theorem toks_c (sp : Nat → Int) (i : Nat) (w : Wd) (ws : List Wd) : toks sp i (w :: ws) = w.tok (sp i) :: toks sp (i + 1) ws := rfl
inductive PK where
  | wild
  | lit (k : Nat)
  | neg (k : Nat)
  | bool (b : Bool)
  | rng (k : Nat)
  | nam (b : Bool)
noncomputable def namT (b : Bool) : String := if b then "b_" else "a"
noncomputable def PK.words : PK → List Wd
  | .wild => [.s "_"]
  | .lit k => [.n k]
  | .neg k => [.s "-", .n k]
  | .bool b => [.s (if b then "true" else "false")]
  | .rng k => [.n k, .s "..=", .n 900]
  | .nam b => [.s (namT b)]
noncomputable def PK.tree (s : Int) : PK → D
  | .wild => .tup [sg "wild", .int s]
  | .lit k => .tup [sg "lit", .int s, .int k]
  | .neg k => .tup [sg "lit", .int s, .int (0 - k)]
  | .bool b => .tup [sg "lit", .int s, .bool b]
  | .rng k => .tup [sg "range", .int s, .int k, .int 900]
  | .nam b => .tup [sg "name", .int s, sg (namT b), .bool false, .bool false, .none]
noncomputable def Follow (w : Wd) : Prop := w = .s "|" ∨ w = .s "," ∨ w = .s ")" ∨ w = .s "c"
theorem follow_tok (w : Wd) (s : Int) (h : Follow w) : ∃ a c t, w.tok s = .tup (sg a :: sg c :: t) ∧ ∀ x ∈ ["..=", "::", "(", "{", "@"], lookB a c x = false := by
  rcases h with rfl | rfl | rfl | rfl
  all_goals exact ⟨_, _, _, rfl, by decide⟩
theorem kw_a : inSeq (Str.ofString "a") (strsD keywordsL) = some false := by decide +kernel
theorem kw_b : inSeq (Str.ofString "b_") (strsD keywordsL) = some false := by decide +kernel
theorem pw_a : inSeq (Str.ofString "a") (strsD pathWordsL) = some false := by decide +kernel
section
variable (P T : Hp) (rows : List D) (p : Nat) (d : Int) (sp : Nat → Int)
theorem shallow (k : PK) (n : Nat) (w : Wd) (rest : List D) (hw : Follow w) (h : rows.drop p = toks sp p (k.words ++ [w]) ++ rest) (hl : rows.length ≤ 1000) :
    callT (n + 25) 48 [.loc P.length] (hp P (wd rows p d) T) = .ok (.d (k.tree (sp p))) (hp P (wd rows (p + k.words.length) d) T) := by
  revert hw h hl; revert P T rows p d sp k n w rest
  refine @(eps10 (P := ?P) (dH, dH, du, dN, dI, (default : Nat → Int), PK.wild, dN, (Wd.n 0), du) rfl ((?m : Pi10 ?P) _ _ _ _ _ _ _ _ _ _))
  intro P T rows p d sp k n w rest hw h hl
  have g : ∀ i, rows[p + i]? = (toks sp p (k.words ++ [w]) ++ rest)[i]? := fun i => by rw [← h, List.getElem?_drop]
  have g0 := g 0
  have g1 := g 1
  have g2 := g 2
  have g3 := g 3
  rw [cf _ _ _ _ f48 (by rfl) _ (by rfl)]
  induction k with
  | wild =>
    simp [toks, PK.words] at g0
    have e := fun n => peek P T rows p d n _ g0 hl
    have e1 := fun n x => looks P T rows p d n _ _ x _ g0 hl
    have e2 := fun n => take P T rows p d n _ _ g0 (by decide) hl
    simp [-BEq.rfl, f48, e, e1, e2, lookB, PK.words, PK.tree]
  | lit k =>
    refine E3A2 (follow_tok w (sp (p + 1)) hw) fun a c t ht hf => ?_
    simp [toks, PK.words, ht] at g0 g1
    have e := fun n => peek P T rows p d n _ g0 hl
    have e1 := fun n x => looks P T rows p d n _ _ x _ g0 hl
    have e2 := fun n => numberP P T rows p d n _ _ _ _ _ _ g0 g1 (hf _ (by simp)) hl
    simp [-BEq.rfl, f48, e, e1, e2, lookB, PK.words, PK.tree]
  | neg k =>
    refine E3A2 (follow_tok w (sp (p + 1 + 1)) hw) fun a c t ht hf => ?_
    simp [toks, PK.words, ht] at g0 g1 g2
    have e := fun n => peek P T rows p d n _ g0 hl
    have e1 := fun n x => looks P T rows p d n _ _ x _ g0 hl
    have e2 := fun n => numberM P T rows p d n _ _ _ _ _ _ _ g0 g1 g2 (hf _ (by simp)) hl
    simp [-BEq.rfl, f48, e, e1, e2, lookB, PK.words, PK.tree]
  | bool b =>
    have hn : kind (if b then "true" else "false") = "name" := by induction b <;> decide
    simp [toks, PK.words, hn] at g0
    have e := fun n => peek P T rows p d n _ g0 hl
    have e1 := fun n x => looks P T rows p d n _ _ x _ g0 hl
    have e2 := fun n => take P T rows p d n _ _ g0 (by decide) hl
    cases b
    · simp at e e1 e2
      simp [-BEq.rfl, f48, e, e1, e2, lookB, PK.words, PK.tree]
    · simp at e e1 e2
      simp [-BEq.rfl, f48, e, e1, e2, lookB, PK.words, PK.tree]
  | rng k =>
    simp [toks, PK.words] at g0 g1 g2
    have e := fun n => peek P T rows p d n _ g0 hl
    have e1 := fun n x => looks P T rows p d n _ _ x _ g0 hl
    have e2 := fun n => numberR P T rows p d n _ _ _ _ _ _ _ g0 g1 g2 hl
    simp [-BEq.rfl, f48, e, e1, e2, lookB, PK.words, PK.tree]
  | nam b =>
    refine E3A2 (follow_tok w (sp (p + 1)) hw) fun a c t ht hf => ?_
    have hk : inSeq (Str.ofString (namT b)) (strsD keywordsL) = some false := by
      cases b
      · exact kw_a
      · exact kw_b
    have hn : kind (namT b) = "name" := by induction b <;> decide
    simp [toks, PK.words, ht, hn] at g0 g1
    have e := fun n => peek P T rows p d n _ g0 hl
    have e1 := fun n x => looks P T rows p d n _ _ x _ g0 hl
    have e2 := fun n => binding P T rows p d n _ _ _ _ _ g0 hk (by induction b <;> decide) (by induction b <;> decide) g1 (hf _ (by simp)) hl
    have e3 := fun n H => plain n (namT b) [.int (sp p), .none, .none] H hk
    have e4 := fun n => alone P T rows p d n _ _ _ g1 hl
    have l1 := hf "::" (by simp)
    have l2 := hf "(" (by simp)
    have l3 := hf "{" (by simp)
    have m : ∀ x ∈ ["_", "&", "&&", "(", "-", "true", "false", "ref", "mut"], lookB "name" (namT b) x = false := by induction b <;> decide
    simp at m
    simp [-BEq.rfl, f48, e, e1, e2, e3, e4, l1, l2, l3, m, PK.words, PK.tree]
theorem part (k : PK) (n : Nat) (w : Wd) (rest : List D) (hw : Follow w) (h : rows.drop p = toks sp p (k.words ++ [w]) ++ rest) (hl : rows.length ≤ 1000) (hd : d < 60) :
    callT (n + 29) 47 [.loc P.length] (hp P (wd rows p d) T) = .ok (.d (k.tree (sp p))) (hp P (wd rows (p + k.words.length) d) T) := by
  have e := fun n => shallow P T rows p (d + 1) sp k n w rest hw h hl
  have e1 := fun n => deeper P T rows p d n hd
  have e2 := fun n => shallower P T rows (p + k.words.length) (d + 1) n
  rw [cf _ _ _ _ f47 (by rfl) _ (by rfl)]
  simp [-BEq.rfl, f47, e, e1, e2, show d + 1 - 1 = d by lia]
end
end
end Mine.P
end
section
namespace Mine.P
open PySem
noncomputable section
@[simp] theorem if_ok {α : Type} (c : Prop) [Decidable c] (a b : α) (H : Hp) : (if c then R.ok a H else R.ok b H) = R.ok (if c then a else b) H := by
  split <;> rfl
noncomputable def whV (n : Nat) (ks : Ks) (t : Ex) (b : List St) (k : Nat) (loc : Loc) (H : Hp) : R (Fl × Loc) :=
  whileL (fun loc H => testC n ks loc t H) (fun loc H => execL (fun loc s H => execC n ks loc s H) b loc H) k loc H
noncomputable def whS (n : Nat) (ks : Ks) (t : Ex) (b : List St) (k : Nat) (x : Fl × Loc) (H : Hp) : R (Fl × Loc) := match x.1 with
      | .next => whV n ks t b k x.2 H
      | .cont => whV n ks t b k x.2 H
      | .brk => .ok (.next, x.2) H
      | .ret v => .ok (.ret v, x.2) H
section
variable (n : Nat) (ks : Ks) (t : Ex) (b : List St) (k : Nat) (loc : Loc) (H : Hp)
@[simp] theorem s_whl : execC (n + 1) ks loc (.whl t b) H = (whV n ks t b LK loc H).only := rfl
@[simp] theorem whS_next : whS n ks t b k (.next, loc) H = whV n ks t b k loc H := rfl
@[simp] theorem whS_brk : whS n ks t b k (.brk, loc) H = .ok (.next, loc) H := rfl
noncomputable def whK (n : Nat) (ks : Ks) (t : Ex) (b : List St) (k : Nat) (loc : Loc) (c : Bool) (H : Hp) : R (Fl × Loc) := if c then (blk n ks b loc H).bnd (whS n ks t b k) else .ok (.next, loc) H
@[simp] theorem whK_t : whK n ks t b k loc true H = (blk n ks b loc H).bnd (whS n ks t b k) := rfl
@[simp] theorem whK_f : whK n ks t b k loc false H = .ok (.next, loc) H := rfl
@[simp low] theorem whK_eq (c : Bool) : whK n ks t b k loc c H = if c then (blk n ks b loc H).bnd (whS n ks t b k) else .ok (.next, loc) H := rfl
theorem whV_step : whV n ks t b (k + 1) loc H = (testC n ks loc t H).bnd (whK n ks t b k loc) := rfl
end
section
variable (P T : Hp) (w : O) (l : List D)
theorem app_last (x : D) (hl : l.length < 1000) : appV (P.length + T.length + 1) [.d x] (hp P w (T ++ [.list l])) = .ok (.d .none) (hp P w (T ++ [.list (l ++ [x])])) := by
  unfold appV
  rw [hp_last]
  simp only [decide_eq_true (show l.length < 16000 by lia), guard_tt, hp_setlast]
theorem lst_loc (H : Hp) (i : Nat) (h : H[i]? = some (O.list l)) : listOf H (.loc i) = some l := by
  show (match H[i]? with | some (O.list l) => some l | _ => Option.none) = _
  rw [h]
theorem len_loc (H : Hp) (i : Nat) (h : H[i]? = some (O.list l)) (hl : l.length < 1000) : bltnC 0 [.loc i] H = .ok (.d (.int l.length)) H := by
  simp only [binC_eq, idxC_eq, bltnC_eq, slC_eq, strC_eq]
  show (R.opt (listOf H (.loc i)) fun l => R.guard (decide (l.length ≤ line)) (retI l.length H)) = _
  have e2 : decide (l.length ≤ line) = true := by
    unfold line
    simp only [decide_eq_true_eq]; lia
  rw [lst_loc l H i h]
  show R.guard _ _ = _
  simp only [e2, guard_tt, retI]
theorem tup_loc (H : Hp) (i : Nat) (h : H[i]? = some (O.list l)) (hl : l.length < 1000) : bltnC 4 [.loc i] H = .ok (.d (.tup l)) H := by
  simp only [binC_eq, idxC_eq, bltnC_eq, slC_eq, strC_eq]
  show (R.opt (listOf H (.loc i)) fun l => R.guard (decide (l.length ≤ 16384)) (R.ok (V.d (.tup l)) H)) = _
  rw [lst_loc l H i h]
  show R.guard _ _ = _
  simp only [decide_eq_true (show l.length ≤ 16384 by lia), guard_tt]
theorem idx_loc (a : D) (H : Hp) (i : Nat) (h : H[i]? = some (O.list (a :: l))) : idxC (.loc i) (.d (.int 0)) H = .ok (.d a) H := by
  simp only [binC_eq, idxC_eq, bltnC_eq, slC_eq, strC_eq]
  show (R.opt (listOf H (.loc i)) fun l => R.opt l[(0 : Int).toNat]? fun x => R.ok (V.d x) H) = _
  rw [lst_loc _ H i h]
  rfl
theorem len_last (hl : l.length < 1000) : bltnC 0 [.loc (P.length + T.length + 1)] (hp P w (T ++ [.list l])) = .ok (.d (.int l.length)) (hp P w (T ++ [.list l])) :=
  len_loc l _ _ (hp_last _ _ _ _) hl
theorem tup_last (hl : l.length < 1000) : bltnC 4 [.loc (P.length + T.length + 1)] (hp P w (T ++ [.list l])) = .ok (.d (.tup l)) (hp P w (T ++ [.list l])) :=
  tup_loc l _ _ (hp_last _ _ _ _) hl
theorem idx_last (a : D) : idxC (.loc (P.length + T.length + 1)) (.d (.int 0)) (hp P w (T ++ [O.list (a :: l)])) = .ok (.d a) (hp P w (T ++ [O.list (a :: l)])) :=
  idx_loc l a _ _ (hp_last _ _ _ _)
end
noncomputable def Is (rows : List D) (sp : Nat → Int) (p : Nat) (ws : List Wd) : Prop := ∃ rest, rows.drop p = toks sp p ws ++ rest
theorem toks_app (sp : Nat → Int) (a b : List Wd) : ∀ i, toks sp i (a ++ b) = toks sp i a ++ toks sp (i + a.length) b := by
  induction a with
  | nil => intro i; rfl
  | cons x a ih => intro i; simp [toks, ih, Nat.add_assoc, Nat.add_comm 1]
theorem toks_len (sp : Nat → Int) (a : List Wd) : ∀ i, (toks sp i a).length = a.length := by
  induction a with
  | nil => intro i; rfl
  | cons x a ih => intro i; simp [toks, ih]
theorem Is.l {rows : List D} {sp : Nat → Int} {p : Nat} {a b : List Wd} (h : Is rows sp p (a ++ b)) : Is rows sp p a := by
  obtain ⟨r, h⟩ := h
  exact ⟨_, by rw [h, toks_app, List.append_assoc]⟩
theorem Is.r {rows : List D} {sp : Nat → Int} {p : Nat} {a b : List Wd} (h : Is rows sp p (a ++ b)) : Is rows sp (p + a.length) b := by
  obtain ⟨r, h⟩ := h
  refine ⟨r, ?_⟩
  rw [← List.drop_drop, h, toks_app, List.append_assoc, List.drop_left' (toks_len sp a p)]
theorem Is.get {rows : List D} {sp : Nat → Int} {p : Nat} {w : Wd} {b : List Wd} (h : Is rows sp p (w :: b)) : rows[p]? = some (w.tok (sp p)) := by
  obtain ⟨r, h⟩ := h
  have e : rows[p + 0]? = (rows.drop p)[0]? := by rw [List.getElem?_drop]
  rw [h] at e
  simpa [toks] using e
theorem Is.tl {rows : List D} {sp : Nat → Int} {p : Nat} {w : Wd} {b : List Wd} (h : Is rows sp p (w :: b)) : Is rows sp (p + 1) b := Is.r (a := [w]) h
structure PT where
  ahead : Bool
  fst : PK
  snd : Option PK
noncomputable def PT.words (x : PT) : List Wd := (if x.ahead then [.s "|"] else []) ++ x.fst.words ++ (match x.snd with | none => [] | some k => .s "|" :: k.words)
noncomputable def PT.a (x : PT) : Nat := if x.ahead then 1 else 0
noncomputable def PT.tree (sp : Nat → Int) (p : Nat) (x : PT) : D := match x.snd with
  | none => x.fst.tree (sp (p + x.a))
  | some k => .tup [sg "or", .int (sp p), .tup [x.fst.tree (sp (p + x.a)), k.tree (sp (p + x.a + x.fst.words.length + 1))]]
noncomputable def FollowP (w : Wd) : Prop := w = .s "," ∨ w = .s ")" ∨ w = .s "c"
theorem FollowP.f {w : Wd} (h : FollowP w) : Follow w := by
  rcases h with rfl | rfl | rfl <;> simp [Follow]
section
variable (P T : Hp) (rows : List D) (p : Nat) (d : Int) (sp : Nat → Int)
theorem part2 (k : PK) (n : Nat) (w : Wd) (hw : Follow w) (h : Is rows sp p (k.words ++ [w])) (hl : rows.length ≤ 1000) (hd : d < 60) :
    callT (n + 29) 47 [.loc P.length] (hp P (wd rows p d) T) = .ok (.d (k.tree (sp p))) (hp P (wd rows (p + k.words.length) d) T) := by
  obtain ⟨r, h⟩ := h
  exact part P T rows p d sp k n w r hw h hl hd
theorem follow_bar (w : Wd) (s : Int) (h : FollowP w) : ∃ a c t, w.tok s = .tup (sg a :: sg c :: t) ∧ lookB a c "|" = false := by
  rcases h with rfl | rfl | rfl
  all_goals exact ⟨_, _, _, rfl, by decide⟩
theorem part_head (k : PK) (s : Int) : ∃ w b, k.words = w :: b ∧ ∃ a c y t, w.tok s = .tup (sg a :: sg c :: .int s :: t) ∧ lookB a c "|" = y ∧ y = false ∧ a ≠ "end" := by
  induction k with
  | nam b => exact ⟨_, _, rfl, _, _, _, _, rfl, rfl, by induction b <;> decide, by induction b <;> decide⟩
  | bool b => exact ⟨_, _, rfl, _, _, _, _, rfl, rfl, by induction b <;> decide, by induction b <;> decide⟩
  | _ => exact ⟨_, _, rfl, _, _, _, _, rfl, rfl, by simp [lookB], by decide⟩
theorem pattern (x : PT) (n : Nat) (w : Wd) (hw : FollowP w) (h : Is rows sp p (x.words ++ [w])) (hl : rows.length ≤ 1000) (hd : d < 60) :
    callT (n + 35) 46 [.loc P.length] (hp P (wd rows p d) T) = .ok (.d (x.tree sp p)) (hp P (wd rows (p + x.words.length) d) T) := by
  revert hw h hl hd; revert P T rows p d sp x n w
  refine @(eps7 (P := ?P) (dH, dH, du, dN, dI, (default : Nat → Int), (PT.mk false PK.wild none)) rfl ((?m : Pi7 ?P) _ _ _ _ _ _ _))
  intro P T rows p d sp x n w hw h hl hd
  obtain ⟨ah, k, o⟩ := x
  rw [cf _ _ _ _ f46 (by rfl) _ (by rfl)]
  induction o with
  | none =>
    induction ah with
    | false =>
      simp [PT.words] at h
      obtain ⟨a, c, t, ht, hf⟩ := follow_bar w (sp (p + k.words.length)) hw
      have h1 := h.r.get
      rw [ht] at h1
      obtain ⟨w0, b0, k0, a0, c0, y0, t0, ht0, hy, hy0, he0⟩ := part_head k (sp p)
      have h0 := h
      rw [k0] at h0
      have h2 := h0.get
      rw [ht0] at h2
      have lb : lookB "sign" "|" "|" = true := by decide
      have e := fun n T => peek P T rows p d n _ h2 hl
      have e1 := fun n T x => looks P T rows p d n _ _ x _ h2 hl
      have e2 := fun n T => part2 P T rows p d sp k n w hw.f h hl hd
      have e3 := fun n T x => looks P T rows (p + k.words.length) d n _ _ x _ h1 hl
      simp [-BEq.rfl, f46, e, e1, e2, e3, hf, hy, hy0, LK, whV_step, len_last, idx_last, tup_last, app_last, PT.words, PT.tree, PT.a]
    | true =>
      simp [PT.words] at h
      obtain ⟨a, c, t, ht, hf⟩ := follow_bar w (sp (p + 1 + k.words.length)) hw
      have h1 := h.tl.r.get
      rw [ht] at h1
      have h2 := h.get
      simp at h2
      have lb : lookB "sign" "|" "|" = true := by decide
      have e := fun n T => peek P T rows p d n _ h2 hl
      have e1 := fun n T x => looks P T rows p d n _ _ x _ h2 hl
      have e0 := fun n T => take P T rows p d n _ _ h2 (by decide) hl
      have e2 := fun n T => part2 P T rows (p + 1) d sp k n w hw.f h.tl hl hd
      have e3 := fun n T x => looks P T rows (p + 1 + k.words.length) d n _ _ x _ h1 hl
      simp [-BEq.rfl, f46, e, e1, e0, e2, e3, hf, lb, LK, whV_step, len_last, idx_last, tup_last, app_last, PT.words, PT.tree, PT.a]
      simp [Nat.add_assoc, Nat.add_comm, Nat.add_left_comm]
  | some k2 =>
    induction ah with
    | false =>
      simp [PT.words] at h
      obtain ⟨a, c, t, ht, hf⟩ := follow_bar w (sp (p + k.words.length + 1 + k2.words.length)) hw
      have h1 := h.r.tl.r.get
      rw [ht] at h1
      obtain ⟨w0, b0, k0, a0, c0, y0, t0, ht0, hy, hy0, he0⟩ := part_head k (sp p)
      have h0 := h
      rw [k0] at h0
      have h2 := h0.get
      rw [ht0] at h2
      have hb := h.r.get
      simp at hb
      have hk : Is rows sp p (k.words ++ [Wd.s "|"]) := Is.l (b := k2.words ++ [w]) (by simpa using h)
      have lb : lookB "sign" "|" "|" = true := by decide
      have e := fun n T => peek P T rows p d n _ h2 hl
      have e1 := fun n T x => looks P T rows p d n _ _ x _ h2 hl
      have e2 := fun n T => part2 P T rows p d sp k n _ (Or.inl rfl) hk hl hd
      have e3 := fun n T x => looks P T rows (p + k.words.length) d n _ _ x _ hb hl
      have e0 := fun n T => take P T rows (p + k.words.length) d n _ _ hb (by decide) hl
      have e4 := fun n T => part2 P T rows (p + k.words.length + 1) d sp k2 n w hw.f h.r.tl hl hd
      have e5 := fun n T x => looks P T rows (p + k.words.length + 1 + k2.words.length) d n _ _ x _ h1 hl
      have lb : lookB "sign" "|" "|" = true := by decide
      simp [-BEq.rfl, f46, e, e1, e2, e3, e0, e4, e5, hf, hy, hy0, lb, LK, whV_step, len_last, idx_last, tup_last, app_last, PT.words, PT.tree, PT.a]
      simp [Nat.add_assoc, Nat.add_comm, Nat.add_left_comm]
    | true =>
      simp [PT.words] at h
      obtain ⟨a, c, t, ht, hf⟩ := follow_bar w (sp (p + 1 + k.words.length + 1 + k2.words.length)) hw
      have h1 := h.tl.r.tl.r.get
      rw [ht] at h1
      have h2 := h.get
      simp at h2
      have hb := h.tl.r.get
      simp at hb
      have hk : Is rows sp (p + 1) (k.words ++ [Wd.s "|"]) := Is.l (b := k2.words ++ [w]) (by simpa using h.tl)
      have lb : lookB "sign" "|" "|" = true := by decide
      have e := fun n T => peek P T rows p d n _ h2 hl
      have e1 := fun n T x => looks P T rows p d n _ _ x _ h2 hl
      have e6 := fun n T => take P T rows p d n _ _ h2 (by decide) hl
      have e2 := fun n T => part2 P T rows (p + 1) d sp k n _ (Or.inl rfl) hk hl hd
      have e3 := fun n T x => looks P T rows (p + 1 + k.words.length) d n _ _ x _ hb hl
      have e0 := fun n T => take P T rows (p + 1 + k.words.length) d n _ _ hb (by decide) hl
      have e4 := fun n T => part2 P T rows (p + 1 + k.words.length + 1) d sp k2 n w hw.f h.tl.r.tl hl hd
      have e5 := fun n T x => looks P T rows (p + 1 + k.words.length + 1 + k2.words.length) d n _ _ x _ h1 hl
      have lb : lookB "sign" "|" "|" = true := by decide
      simp [-BEq.rfl, f46, e, e1, e2, e3, e0, e4, e5, e6, hf, lb, LK, whV_step, len_last, idx_last, tup_last, app_last, PT.words, PT.tree, PT.a]
      simp [Nat.add_assoc, Nat.add_comm, Nat.add_left_comm]
end
end
end Mine.P
end
section
namespace Mine.P
open PySem
noncomputable section
noncomputable def cw : List PT → List Wd
  | [] => []
  | x :: r => x.words ++ .s "," :: cw r
noncomputable def cwT (sp : Nat → Int) : Nat → List PT → List D
  | _, [] => []
  | p, x :: r => x.tree sp p :: cwT sp (p + x.words.length + 1) r
noncomputable def finW : Option PT → List Wd
  | none => []
  | some x => x.words
noncomputable def finT (sp : Nat → Int) (p : Nat) : Option PT → List D
  | none => []
  | some x => [x.tree sp p]
theorem cwT_len (sp : Nat → Int) (its : List PT) : ∀ p, (cwT sp p its).length = its.length := by
  induction its with
  | nil => intro p; rfl
  | cons x r ih => intro p; simp [cwT, ih]
theorem pk_head (k : PK) (s : Int) : ∃ w b, k.words = w :: b ∧ ∃ a c t, w.tok s = .tup (sg a :: sg c :: .int s :: t) ∧ lookB a c ")" = false := by
  induction k with
  | nam b => exact ⟨_, _, rfl, _, _, _, rfl, by induction b <;> decide⟩
  | bool b => exact ⟨_, _, rfl, _, _, _, rfl, by induction b <;> decide⟩
  | _ => exact ⟨_, _, rfl, _, _, _, rfl, by simp [lookB]⟩
theorem pt_head (x : PT) (s : Int) : ∃ w b, x.words = w :: b ∧ ∃ a c t, w.tok s = .tup (sg a :: sg c :: .int s :: t) ∧ lookB a c ")" = false := by
  obtain ⟨ah, k, o⟩ := x
  induction ah with
  | true => exact ⟨_, _, rfl, _, _, _, rfl, by decide⟩
  | false =>
    obtain ⟨w, b, e, h⟩ := pk_head k s
    refine ⟨w, b ++ (match o with | none => [] | some k => .s "|" :: k.words), ?_, h⟩
    simp [PT.words, e]
    all_goals (induction o <;> simp)
section
variable (P T : Hp) (rows : List D) (d : Int) (sp : Nat → Int)
theorem loop50 (s : V) (fin : Option PT) (w : Wd) (hw : w = .s ")" ∨ (w = .s "c" ∧ fin.isSome = true)) (hl : rows.length ≤ 1000) (hd : d < 60) (n : Nat) :
    ∀ (its : List PT) (p : Nat) (acc : List D) (k : Nat), Is rows sp p (cw its ++ (finW fin ++ [w])) → acc.length + its.length < 500 → its.length + 1 < k →
    whV (n + 39) [(36, .local), (17, .local), (38, .local), (60, .local), (46, .globalImplicit), (0, .globalImplicit), (4, .globalImplicit)]
      (.not (.meth (.nm 36) 30 [.str (Str.ofString ")")])) [.expr (.meth (.nm 38) 11 [.call 46 [.nm 36]]), .asg 60 (.meth (.nm 36) 30 [.str (Str.ofString ",")]), .ifS (.not (.nm 60)) [.brk] [], .expr (.meth (.nm 36) 28 [])] k
      [(36, .loc P.length), (17, s), (60, .d (.bool true)), (38, .loc (P.length + T.length + 1))] (hp P (wd rows p d) (T ++ [.list acc])) =
    .ok (.next, [(36, .loc P.length), (17, s), (60, .d (.bool fin.isNone)), (38, .loc (P.length + T.length + 1))])
      (hp P (wd rows (p + (cw its).length + (finW fin).length) d) (T ++ [.list (acc ++ cwT sp p its ++ finT sp (p + (cw its).length) fin)])) := by
  intro its
  revert hw hl hd; revert P T rows d sp s fin w n its
  refine @(eps10 (P := ?P) (dH, dH, du, dI, (default : Nat → Int), dv, (default : Option Mine.P.PT), (Wd.n 0), dN, (default : List Mine.P.PT)) rfl ((?m : Pi10 ?P) _ _ _ _ _ _ _ _ _ _))
  intro P T rows d sp s fin w n its hw hl hd
  induction its with
  | nil =>
    intro p acc k h ha hk
    obtain ⟨k', rfl⟩ : ∃ k', k = k' + 1 := ⟨k - 1, by simp at hk; lia⟩
    simp at ha
    induction fin with
    | none =>
      simp [cw, finW] at h hw
      subst hw
      have h0 := h.get
      simp at h0
      have e := fun n T x => looks P T rows p d n _ _ x _ h0 hl
      have l0 : lookB "sign" ")" ")" = true := by decide
      simp [-BEq.rfl, whV_step, e, l0, cw, cwT, finT, finW]
    | some x =>
      simp [cw, finW] at h hw
      obtain ⟨w0, b0, hx, a, c, t, ht, hf⟩ := pt_head x (sp p)
      have h0 := h
      rw [hx] at h0
      have h0 := h0.get
      rw [ht] at h0
      have h1 := h.r.get
      have e := fun n T x => looks P T rows p d n _ _ x _ h0 hl
      have hw' : FollowP w := by rcases hw with rfl | rfl <;> simp [FollowP]
      have e2 := fun n T => pattern P T rows p d sp x n w hw' h hl hd
      have hc : ∃ a c t, w.tok (sp (p + x.words.length)) = .tup (sg a :: sg c :: t) ∧ lookB a c "," = false := by
        rcases hw with rfl | rfl
        all_goals exact ⟨_, _, _, rfl, by decide⟩
      obtain ⟨a2, c2, t2, ht2, hf2⟩ := hc
      rw [ht2] at h1
      have e3 := fun n T y => looks P T rows (p + x.words.length) d n _ _ y _ h1 hl
      simp [-BEq.rfl, whV_step, e, e2, e3, hf, hf2, app_last P T _ acc _ (by lia), cw, cwT, finT, finW]
  | cons x its ih =>
    intro p acc k h ha hk
    obtain ⟨k', rfl⟩ : ∃ k', k = k' + 1 := ⟨k - 1, by simp at hk; lia⟩
    simp at ha hk
    simp [cw] at h
    obtain ⟨w0, b0, hx, a, c, t, ht, hf⟩ := pt_head x (sp p)
    have h0 := h
    rw [hx] at h0
    have h0 := h0.get
    rw [ht] at h0
    have h1 := h.r.get
    simp at h1
    have hk2 : Is rows sp p (x.words ++ [Wd.s ","]) := Is.l (b := cw its ++ (finW fin ++ [w])) (by simpa using h)
    have e := fun n T x => looks P T rows p d n _ _ x _ h0 hl
    have e2 := fun n T => pattern P T rows p d sp x n _ (Or.inl rfl) hk2 hl hd
    have e3 := fun n T y => looks P T rows (p + x.words.length) d n _ _ y _ h1 hl
    have e4 := fun n T => take P T rows (p + x.words.length) d n _ _ h1 (by decide) hl
    have l0 : lookB "sign" "," "," = true := by decide
    have e5 := ih (p + x.words.length + 1) (acc ++ [x.tree sp p]) k' h.r.tl (by simp; lia) (by lia)
    simp [-BEq.rfl, whV_step, e, e2, e3, e4, hf, l0, app_last P T _ acc _ (by lia), e5, cw, cwT]
    simp [Nat.add_assoc, Nat.add_comm, Nat.add_left_comm]
theorem loop68 (fin : Option PT) (w : Wd) (hw : w = .s ")" ∨ (w = .s "c" ∧ fin.isSome = true)) (hl : rows.length ≤ 1000) (hd : d < 60) (n : Nat) :
    ∀ (its : List PT) (p : Nat) (acc : List D) (k : Nat), Is rows sp p (cw its ++ (finW fin ++ [w])) → acc.length + its.length < 500 → its.length + 1 < k →
    whV (n + 39) [(36, .local), (38, .local), (46, .globalImplicit), (4, .globalImplicit)]
      (.not (.meth (.nm 36) 30 [.str (Str.ofString ")")])) [.expr (.meth (.nm 38) 11 [.call 46 [.nm 36]]), .ifS (.not (.meth (.nm 36) 30 [.str (Str.ofString ",")])) [.brk] [], .expr (.meth (.nm 36) 28 [])] k
      [(36, .loc P.length), (38, .loc (P.length + T.length + 1))] (hp P (wd rows p d) (T ++ [.list acc])) =
    .ok (.next, [(36, .loc P.length), (38, .loc (P.length + T.length + 1))])
      (hp P (wd rows (p + (cw its).length + (finW fin).length) d) (T ++ [.list (acc ++ cwT sp p its ++ finT sp (p + (cw its).length) fin)])) := by
  intro its
  revert hw hl hd; revert P T rows d sp fin w n its
  refine @(eps7 (P := ?P) (dH, dH, du, dI, (default : Nat → Int), (default : Option Mine.P.PT), (Wd.n 0)) rfl ((?m : Pi7 ?P) _ _ _ _ _ _ _))
  intro P T rows d sp fin w n its hw hl hd
  induction its with
  | nil =>
    intro p acc k h ha hk
    obtain ⟨k', rfl⟩ : ∃ k', k = k' + 1 := ⟨k - 1, by simp at hk; lia⟩
    simp at ha
    induction fin with
    | none =>
      simp [cw, finW] at h hw
      subst hw
      have h0 := h.get
      simp at h0
      have e := fun n T x => looks P T rows p d n _ _ x _ h0 hl
      have l0 : lookB "sign" ")" ")" = true := by decide
      simp [-BEq.rfl, whV_step, e, l0, cw, cwT, finT, finW]
    | some x =>
      simp [cw, finW] at h hw
      obtain ⟨w0, b0, hx, a, c, t, ht, hf⟩ := pt_head x (sp p)
      have h0 := h
      rw [hx] at h0
      have h0 := h0.get
      rw [ht] at h0
      have h1 := h.r.get
      have e := fun n T x => looks P T rows p d n _ _ x _ h0 hl
      have hw' : FollowP w := by rcases hw with rfl | rfl <;> simp [FollowP]
      have e2 := fun n T => pattern P T rows p d sp x n w hw' h hl hd
      have hc : ∃ a c t, w.tok (sp (p + x.words.length)) = .tup (sg a :: sg c :: t) ∧ lookB a c "," = false := by
        rcases hw with rfl | rfl
        all_goals exact ⟨_, _, _, rfl, by decide⟩
      obtain ⟨a2, c2, t2, ht2, hf2⟩ := hc
      rw [ht2] at h1
      have e3 := fun n T y => looks P T rows (p + x.words.length) d n _ _ y _ h1 hl
      simp [-BEq.rfl, whV_step, e, e2, e3, hf, hf2, app_last P T _ acc _ (by lia), cw, cwT, finT, finW]
  | cons x its ih =>
    intro p acc k h ha hk
    obtain ⟨k', rfl⟩ : ∃ k', k = k' + 1 := ⟨k - 1, by simp at hk; lia⟩
    simp at ha hk
    simp [cw] at h
    obtain ⟨w0, b0, hx, a, c, t, ht, hf⟩ := pt_head x (sp p)
    have h0 := h
    rw [hx] at h0
    have h0 := h0.get
    rw [ht] at h0
    have h1 := h.r.get
    simp at h1
    have hk2 : Is rows sp p (x.words ++ [Wd.s ","]) := Is.l (b := cw its ++ (finW fin ++ [w])) (by simpa using h)
    have e := fun n T x => looks P T rows p d n _ _ x _ h0 hl
    have e2 := fun n T => pattern P T rows p d sp x n _ (Or.inl rfl) hk2 hl hd
    have e3 := fun n T y => looks P T rows (p + x.words.length) d n _ _ y _ h1 hl
    have e4 := fun n T => take P T rows (p + x.words.length) d n _ _ h1 (by decide) hl
    have l0 : lookB "sign" "," "," = true := by decide
    have e5 := ih (p + x.words.length + 1) (acc ++ [x.tree sp p]) k' h.r.tl (by simp; lia) (by lia)
    simp [-BEq.rfl, whV_step, e, e2, e3, e4, hf, l0, app_last P T _ acc _ (by lia), e5, cw, cwT]
    simp [Nat.add_assoc, Nat.add_comm, Nat.add_left_comm]
noncomputable def parenD (sp : Nat → Int) (p : Nat) (its : List PT) (fin : Option PT) : D := match its, fin with
  | [], some x => x.tree sp (p + 1)
  | _, _ => .tup [sg "tuple", .int (sp p), .tup (cwT sp (p + 1) its ++ finT sp (p + 1 + (cw its).length) fin)]
theorem paren (n p : Nat) (its : List PT) (fin : Option PT) (h : Is rows sp p (.s "(" :: (cw its ++ (finW fin ++ [.s ")"])))) (hl : rows.length ≤ 1000) (hd : d < 60) (hi : its.length < 400) :
    callT (n + 41) 50 [.loc P.length] (hp P (wd rows p d) T) = .ok (.d (parenD sp p its fin)) (hp P (wd rows (p + 1 + (cw its).length + (finW fin).length + 1) d) T) := by
  revert h hl hd hi; revert P T rows d sp n p its fin
  refine @(eps7 (P := ?P) (dH, dH, du, dI, (default : Nat → Int), dN, dN) rfl ((?m : Pi7 ?P) _ _ _ _ _ _ _))
  intro P T rows d sp n p its fin h hl hd hi
  have h0 := h.get
  simp at h0
  have h1 := h.tl.r.r.get
  simp at h1
  have e := fun n T => expect P T rows p d n _ _ _ h0 (by decide) hl
  have e1 := loop50 P T rows d sp (.d (.int (sp p))) fin _ (Or.inl rfl) hl hd n its (p + 1) [] LK h.tl (by simp; lia) (by unfold LK; lia)
  have e2 := fun n T => expect P T rows (p + 1 + (cw its).length + (finW fin).length) d n _ _ _ h1 (by decide) hl
  have e3 := len_last P T (wd rows (p + 1 + (cw its).length + (finW fin).length + 1) d) (cwT sp (p + 1) its ++ finT sp (p + 1 + (cw its).length) fin) (by simp [cwT_len]; induction fin <;> simp [finT] <;> lia)
  have e4 := tup_last P T (wd rows (p + 1 + (cw its).length + (finW fin).length + 1) d) (cwT sp (p + 1) its ++ finT sp (p + 1 + (cw its).length) fin) (by simp [cwT_len]; induction fin <;> simp [finT] <;> lia)
  rw [cf _ _ _ _ f50 (by rfl) _ (by rfl)]
  induction fin with
  | none =>
    simp at e e1 e2 e3 e4
    simp [-BEq.rfl, f50, e, e1, e2, e3, e4, parenD]
  | some x =>
    cases its with
    | nil =>
      simp [cwT, finT, cw] at e e1 e2 e3 e4
      simp [-BEq.rfl, f50, e, e1, e2, e3, e4, parenD, idx_last, cw, cwT, finT]
    | cons y its =>
      simp [cwT, finT, cw] at e e1 e2 e3 e4
      have hh (z : Nat) : ¬ ((z : Int) + 1 + 1 = 1) := by lia
      simp [-BEq.rfl, f50, e, e1, e2, e3, e4, parenD, cw, cwT, finT, hh]
theorem parenX (n p : Nat) (its : List PT) (x : PT) (h : Is rows sp p (.s "(" :: (cw its ++ (x.words ++ [.s "c"])))) (hl : rows.length ≤ 1000) (hd : d < 60) (hi : its.length < 400) :
    callT (n + 41) 50 [.loc P.length] (hp P (wd rows p d) T) = .exc (Str.ofString ")" ++ Str.ofString " is missing") (.int (sp (p + 1 + (cw its).length + x.words.length))) (hp P (wd rows (p + 1 + (cw its).length + x.words.length) d) T) := by
  have h0 := h.get
  simp at h0
  have h1 := h.tl.r.r.get
  simp at h1
  have e := fun n T => expect P T rows p d n _ _ _ h0 (by decide) hl
  have e1 := loop50 P T rows d sp (.d (.int (sp p))) (some x) _ (Or.inr ⟨rfl, rfl⟩) hl hd n its (p + 1) [] LK h.tl (by simp; lia) (by unfold LK; lia)
  have e2 := fun n T => expectN P T rows (p + 1 + (cw its).length + x.words.length) d n _ _ ")" _ _ h1 (by decide) (by decide) hl
  rw [cf _ _ _ _ f50 (by rfl) _ (by rfl)]
  simp [finW] at e e1 e2
  simp [-BEq.rfl, f50, e, e1, e2]
theorem places (n p : Nat) (its : List PT) (fin : Option PT) (h : Is rows sp p (.s "(" :: (cw its ++ (finW fin ++ [.s ")"])))) (hl : rows.length ≤ 1000) (hd : d < 60) (hi : its.length < 400) :
    callT (n + 41) 68 [.loc P.length] (hp P (wd rows p d) T) = .ok (.d (.tup (cwT sp (p + 1) its ++ finT sp (p + 1 + (cw its).length) fin))) (hp P (wd rows (p + 1 + (cw its).length + (finW fin).length + 1) d) T) := by
  revert h hl hd hi; revert P T rows d sp n p its fin
  refine @(eps7 (P := ?P) (dH, dH, du, dI, (default : Nat → Int), dN, dN) rfl ((?m : Pi7 ?P) _ _ _ _ _ _ _))
  intro P T rows d sp n p its fin h hl hd hi
  have h0 := h.get
  simp at h0
  have h1 := h.tl.r.r.get
  simp at h1
  have e := fun n T => expect P T rows p d n _ _ _ h0 (by decide) hl
  have e1 := loop68 P T rows d sp fin _ (Or.inl rfl) hl hd n its (p + 1) [] LK h.tl (by simp; lia) (by unfold LK; lia)
  have e2 := fun n T => expect P T rows (p + 1 + (cw its).length + (finW fin).length) d n _ _ _ h1 (by decide) hl
  have e4 := tup_last P T (wd rows (p + 1 + (cw its).length + (finW fin).length + 1) d) (cwT sp (p + 1) its ++ finT sp (p + 1 + (cw its).length) fin) (by simp [cwT_len]; induction fin <;> simp [finT] <;> lia)
  rw [cf _ _ _ _ f68 (by rfl) _ (by rfl)]
  simp at e e1 e2 e4
  simp [-BEq.rfl, f68, e, e1, e2, e4]
theorem placesX (n p : Nat) (its : List PT) (x : PT) (h : Is rows sp p (.s "(" :: (cw its ++ (x.words ++ [.s "c"])))) (hl : rows.length ≤ 1000) (hd : d < 60) (hi : its.length < 400) :
    callT (n + 41) 68 [.loc P.length] (hp P (wd rows p d) T) = .exc (Str.ofString ")" ++ Str.ofString " is missing") (.int (sp (p + 1 + (cw its).length + x.words.length))) (hp P (wd rows (p + 1 + (cw its).length + x.words.length) d) T) := by
  have h0 := h.get
  simp at h0
  have h1 := h.tl.r.r.get
  simp at h1
  have e := fun n T => expect P T rows p d n _ _ _ h0 (by decide) hl
  have e1 := loop68 P T rows d sp (some x) _ (Or.inr ⟨rfl, rfl⟩) hl hd n its (p + 1) [] LK h.tl (by simp; lia) (by unfold LK; lia)
  have e2 := fun n T => expectN P T rows (p + 1 + (cw its).length + x.words.length) d n _ _ ")" _ _ h1 (by decide) (by decide) hl
  rw [cf _ _ _ _ f68 (by rfl) _ (by rfl)]
  simp [finW] at e e1 e2
  simp [-BEq.rfl, f68, e, e1, e2]
end
end
end Mine.P
end
section
namespace Mine.P
open PySem
noncomputable section
noncomputable def PK.tag : PK → String
  | .wild => "wild"
  | .lit k => "lit"
  | .neg k => "lit"
  | .bool b => "lit"
  | .rng k => "range"
  | .nam b => "name"
noncomputable def PK.more (s : Int) : PK → List D
  | .wild => [.int s]
  | .lit k => [.int s, .int k]
  | .neg k => [.int s, .int (0 - k)]
  | .bool b => [.int s, .bool b]
  | .rng k => [.int s, .int k, .int 900]
  | .nam b => [.int s, sg (namT b), .bool false, .bool false, .none]
theorem PK.tree_eq (k : PK) (s : Int) : k.tree s = .tup (sg k.tag :: k.more s) := by induction k <;> rfl
theorem len_s (x : String) (H : Hp) (h : x.length < 100) : bltnC 0 [.d (.str (Str.ofString x))] H = .ok (.d (.int x.length)) H := by
  simp only [binC_eq, idxC_eq, bltnC_eq, slC_eq, strC_eq]
  show R.guard (decide ((Str.ofString x).length ≤ line)) (retI (Str.ofString x).length H) = _
  have e2 : decide ((Str.ofString x).length ≤ line) = true := by
    rw [len_of]; unfold line
    simp only [decide_eq_true_eq]; lia
  rw [e2, len_of]; rfl
section
variable (P T : Hp) (rows : List D) (p : Nat) (d : Int) (sp : Nat → Int)
theorem partP (k : PK) (n : Nat) (h : Is rows sp p (.s "(" :: (k.words ++ [.s ")"]))) (hl : rows.length ≤ 1000) (hd : d < 50) :
    callT (n + 50) 47 [.loc P.length] (hp P (wd rows p d) T) = .ok (.d (k.tree (sp (p + 1)))) (hp P (wd rows (p + 1 + k.words.length + 1) d) T) := by
  have e := paren P T rows (d + 1) sp
  have e1 := fun n => deeper P T rows p d n (by lia)
  have h0 := h.get
  simp at h0
  have e3 := fun n => peek P T rows p (d + 1) n _ h0 hl
  have e4 := fun n x => looks P T rows p (d + 1) n _ _ x _ h0 hl
  have e5 := fun n => paren P T rows (d + 1) sp n p [] (some ⟨false, k, none⟩) (by simpa [cw, finW, PT.words] using h) hl (by lia) (by simp)
  simp [cw, finW, PT.words, parenD, PT.tree, PT.a] at e5
  have e6 : ∀ n, callT (n + 46) 48 [.loc P.length] (hp P (wd rows p (d + 1)) T) = .ok (.d (k.tree (sp (p + 1)))) (hp P (wd rows (p + 1 + k.words.length + 1) (d + 1)) T) := by
    intro n
    rw [cf _ _ _ _ f48 (by rfl) _ (by rfl)]
    have l : ∀ x ∈ ["_", "&", "&&"], lookB "sign" "(" x = false := by decide
    simp at l
    have l2 : lookB "sign" "(" "(" = true := by decide
    simp [-BEq.rfl, f48, e3, e4, e5, l, l2]
  have e2 := fun n => shallower P T rows (p + 1 + k.words.length + 1) (d + 1) n
  rw [cf _ _ _ _ f47 (by rfl) _ (by rfl)]
  simp [-BEq.rfl, f47, e1, e2, e6, show d + 1 - 1 = d by lia]
noncomputable def ampT (two : Bool) : String := if two then "&&" else "&"
noncomputable def refD (two mu : Bool) (s0 : Int) (inner : D) : D :=
  if two then .tup [sg "ref", .int s0, .bool false, .tup [sg "ref", .int (s0 + 2 - 1), .bool mu, inner]] else .tup [sg "ref", .int (s0 + 1 - 1), .bool mu, inner]
noncomputable def mutW (mu : Bool) : List Wd := if mu then [.s "mut"] else []
theorem refP (n : Nat) (two mu held : Bool) (ws : List Wd) (a c tag : String) (q q' : Nat) (s : Int) (t : List D) (more : List D)
    (h : Is rows sp p (.s (ampT two) :: (mutW mu ++ ws))) (hq : q = p + 1 + (mutW mu).length)
    (ht : rows[q]? = some (.tup (sg a :: sg c :: .int s :: t))) (hm : lookB a c "mut" = false) (hh : lookB a c "(" = held)
    (hi : ∀ n, callT (n + 50) 47 [.loc P.length] (hp P (wd rows q d) T) = .ok (.d (.tup (sg tag :: more))) (hp P (wd rows q' d) T))
    (hl : rows.length ≤ 1000) :
    callT (n + 55) 49 [.loc P.length] (hp P (wd rows p d) T) = if tag = "range" ∧ held = false then .exc (Str.ofString "a range of a reference stands in parentheses") (.int s) (hp P (wd rows q' d) T)
      else .ok (.d (refD two mu (sp p) (.tup (sg tag :: more)))) (hp P (wd rows q' d) T) := by
  revert h hq ht hm hh hi hl; revert P T rows p d sp n two mu held ws a c tag q q' s t more
  refine @(eps19 (P := ?P) (dH, dH, du, dN, dI, (default : Nat → Int), dN, dB, dB, dB, (default : List Mine.P.Wd), (default : String), (default : String), (default : String), dN, dN, dI, du, du) rfl ((?m : Pi19 ?P) _ _ _ _ _ _ _ _ _ _ _ _ _ _ _ _ _ _ _))
  intro P T rows p d sp n two mu held ws a c tag q q' s t more h hq ht hm hh hi hl
  have h0 := h.get
  have hk : kind (ampT two) = "sign" := by induction two <;> decide
  simp [hk] at h0
  have e := fun n => take P T rows p d n _ _ h0 (by decide) hl
  have el := fun H => len_s (ampT two) H (by induction two <;> decide)
  rw [cf _ _ _ _ f49 (by rfl) _ (by rfl)]
  have z1 : "&".length = 1 := by decide
  have z2 : "&&".length = 2 := by decide
  have e3 := fun n => peek P T rows q d n _ ht hl
  have e4 := fun n x => looks P T rows q d n _ _ x _ ht hl
  induction mu with
  | false =>
    simp [mutW] at hq
    subst hq
    induction two <;> induction held <;> by_cases hr : tag = "range" <;> simp [ampT] at e el <;> simp [-BEq.rfl, f49, e, e3, e4, el, hm, hh, hi, hr, refD, ampT, z1, z2]
  | true =>
    simp [mutW] at hq h
    subst hq
    have h1 := h.tl.get
    simp at h1
    have e5 := fun n => take P T rows (p + 1) d n _ _ h1 (by decide) hl
    have e6 := fun n x => looks P T rows (p + 1) d n _ _ x _ h1 hl
    have l : lookB "name" "mut" "mut" = true := by decide
    induction two <;> induction held <;> by_cases hr : tag = "range" <;> simp [ampT] at e el <;> simp [-BEq.rfl, f49, e, e3, e4, e5, e6, l, el, hm, hh, hi, hr, refD, ampT, z1, z2]
end
end
end Mine.P
end
section
namespace Mine.P
open PySem
noncomputable section
theorem compL_ok (src : V) (l : List D) (f : D → Hp → R (Option D)) (g : D → Option D) (H0 : Hp)
    (hs : ∀ acc i, nextItem (H0 ++ [.list acc]) src i = some l[i]?)
    (hf : ∀ x ∈ l, ∀ acc, f x (H0 ++ [.list acc]) = .ok (g x) (H0 ++ [.list acc])) :
    ∀ (m k i : Nat) (acc : List D), l.length = i + m → m < k → acc.length + m < 16000 →
      compL src f H0.length k i (H0 ++ [.list acc]) = .ok () (H0 ++ [.list (acc ++ (l.drop i).filterMap g)]) := by
  intro m
  induction m with
  | zero =>
    intro k i acc hl hk ha
    obtain ⟨k', rfl⟩ : ∃ k', k = k' + 1 := ⟨k - 1, by lia⟩
    have e : l.drop i = [] := List.drop_eq_nil_of_le (by lia)
    rw [e, compL_succ, hs, List.getElem?_eq_none (by lia)]
    simp
  | succ m ih =>
    intro k i acc hl hk ha
    obtain ⟨k', rfl⟩ : ∃ k', k = k' + 1 := ⟨k - 1, by lia⟩
    have hi : i < l.length := by lia
    rw [List.drop_eq_getElem_cons hi, compL_succ, hs, List.getElem?_eq_getElem hi]
    show R.bnd _ (f l[i] (H0 ++ [.list acc])) = _
    rw [hf _ (List.getElem_mem hi), bind_ok]
    cases hg : g l[i] with
    | none =>
      simp only [List.filterMap_cons, hg]
      exact ih k' (i + 1) acc (by lia) (by lia) (by lia)
    | some y =>
      have e1 : (H0 ++ [O.list acc])[H0.length]? = some (.list acc) := by rw [List.getElem?_append_right (Nat.le_refl _), Nat.sub_self]; rfl
      have e2 : (H0 ++ [O.list acc]).set H0.length (.list (acc ++ [y])) = H0 ++ [.list (acc ++ [y])] := by
        rw [List.set_append_right _ _ (Nat.le_refl _), Nat.sub_self]; rfl
      simp only [e1, e2, List.filterMap_cons, hg, decide_eq_true (show acc.length < 16000 by lia), guard_tt]
      rw [ih k' (i + 1) (acc ++ [y]) (by lia) (by lia) (by simp; lia)]
      simp
noncomputable def someD (v : V) (H : Hp) : R (Option D) := match v with
                | .d d => .ok (some d) H
                | .loc _ => .bad
@[simp] theorem someD_eq (d : D) (H : Hp) : someD (.d d) H = .ok (some d) H := rfl
noncomputable def compK (n : Nat) (cks : Ks) (elt : Ex) (cloc : Loc) (c : Bool) (H : Hp) : R (Option D) := if c then (evalC n cks cloc elt H).bnd someD else .ok Option.none H
@[simp] theorem compK_t (n : Nat) (cks : Ks) (elt : Ex) (cloc : Loc) (H : Hp) : compK n cks elt cloc true H = (evalC n cks cloc elt H).bnd someD := rfl
@[simp] theorem compK_f (n : Nat) (cks : Ks) (elt : Ex) (cloc : Loc) (H : Hp) : compK n cks elt cloc false H = .ok Option.none H := rfl
@[simp low] theorem compK_eq (n : Nat) (cks : Ks) (elt : Ex) (cloc : Loc) (c : Bool) (H : Hp) : compK n cks elt cloc c H = if c then (evalC n cks cloc elt H).bnd someD else .ok Option.none H := rfl
noncomputable def compC (n : Nat) (cks : Ks) (elt : Ex) (conds : List Ex) (cloc : Loc) (H : Hp) : R (Option D) := (allE n cks cloc true conds H).bnd (compK n cks elt cloc)
noncomputable def compF (n : Nat) (cks : Ks) (loc : Loc) (elt : Ex) (tg : Tg) (conds : List Ex) (x : D) (H : Hp) : R (Option D) := match tgVals tg x with
          | Option.none => .bad
          | some vs => match setLcs cks (tgNames tg) vs (freeOf cks loc) with
            | Option.none => .bad
            | some cloc => compC n cks elt conds cloc H
noncomputable def compV (n : Nat) (cks : Ks) (loc : Loc) (elt : Ex) (tg : Tg) (conds : List Ex) (src : V) (H : Hp) : R V :=
  (compL src (compF n cks loc elt tg conds) H.length LK 0 (H ++ [.list []])).only.bnd fun _ H' => compEnd H.length H'
theorem e_comp (n : Nat) (ks : Ks) (loc : Loc) (H : Hp) (elt : Ex) (tg : Tg) (iter : Ex) (conds : List Ex) (cks : Ks) : evalC (n + 1) ks loc (.comp elt tg iter conds cks) H =
    R.guard (compOk ks cks) ((evalC n ks loc iter H).bnd (compV n cks loc elt tg conds)) := (rfl)
theorem compV_ok (n : Nat) (cks : Ks) (loc : Loc) (elt : Ex) (tg : Tg) (conds : List Ex) (src : V) (H : Hp) (l : List D) (g : D → Option D)
    (hs : ∀ acc i, nextItem (H ++ [.list acc]) src i = some l[i]?) (hl : l.length < 1000)
    (hf : ∀ x ∈ l, ∀ acc, compF n cks loc elt tg conds x (H ++ [.list acc]) = .ok (g x) (H ++ [.list acc])) :
    compV n cks loc elt tg conds src H = .ok (.d (.list (l.filterMap g))) H := by
  unfold compV
  rw [compL_ok src l _ g H hs hf l.length LK 0 [] (by lia) (by unfold LK; lia) (by simp; lia)]
  have e1 : (H ++ [O.list (([] : List D) ++ (l.drop 0).filterMap g)])[H.length]? = some (.list (l.filterMap g)) := by
    rw [List.getElem?_append_right (Nat.le_refl _), Nat.sub_self]; rfl
  show compEnd H.length _ = _
  unfold compEnd
  rw [e1]
  have e2 : decide ((H ++ [O.list (([] : List D) ++ (l.drop 0).filterMap g)]).length = H.length + 1) = true := by simp
  simp only [e2, guard_tt, List.take_left]
@[simp] theorem c_eqT0 (H : Hp) : cmpV .Eq (.d (.tup [])) (.d (.tup [])) H = some true := rfl
theorem b_tuple (l : List D) (H : Hp) (hl : l.length < 1000) : bltnC 4 [.d (.list l)] H = .ok (.d (.tup l)) H := by
  simp only [binC_eq, idxC_eq, bltnC_eq, slC_eq, strC_eq]
  show R.guard (decide (l.length ≤ 16384)) _ = _
  rw [decide_eq_true (by lia)]; rfl
inductive PaK where
  | one | two | slf
noncomputable def PaK.words : PaK → List Wd
  | .one => [.s "P"]
  | .two => [.s "P", .s "::", .s "Q"]
  | .slf => [.s "Self", .s "::", .s "A"]
noncomputable def seg (x : String) : D := .tup [sg x, .tup [], .tup []]
noncomputable def PaK.tree : PaK → D
  | .one => .tup [seg "P"]
  | .two => .tup [seg "P", seg "Q"]
  | .slf => .tup [seg "Self", seg "A"]
noncomputable def plainB (x : String) : Prop := inSeq (Str.ofString x) (strsD keywordsL) = some false ∧ inSeq (Str.ofString x) (strsD pathWordsL) = some false
theorem pl (x : String) (h : inSeq (Str.ofString x) (strsD keywordsL) = some false) (h2 : inSeq (Str.ofString x) (strsD pathWordsL) = some false) : plainB x := ⟨h, h2⟩
section
variable (P T : Hp) (rows : List D) (p : Nat) (d : Int) (sp : Nat → Int)
theorem pathN (n : Nat) (x : String) (ah : D) (s : D) (t : List D) (h : rows[p]? = some (.tup (sg "name" :: sg x :: s :: t))) (hx : plainB x) (hl : rows.length ≤ 1000) :
    callT (n + 16) 42 [.loc P.length, .d ah] (hp P (wd rows p d) T) = .ok (.d (sg x)) (hp P (wd rows (p + 1) d) T) := by
  have e := fun n => peek P T rows p d n _ h hl
  have e1 := fun n => name P T rows p d n _ _ _ h hx.1 hl
  rw [cf _ _ _ _ f42 (by rfl) _ (by rfl)]
  simp [-BEq.rfl, f42, e, e1, hx.2]
theorem pathS (n : Nat) (s : D) (t : List D) (h : rows[p]? = some (.tup (sg "name" :: sg "Self" :: s :: t))) (hl : rows.length ≤ 1000) :
    callT (n + 16) 42 [.loc P.length, .d (.tup [])] (hp P (wd rows p d) T) = .ok (.d (sg "Self")) (hp P (wd rows (p + 1) d) T) := by
  have e := fun n => peek P T rows p d n _ h hl
  have e1 := fun n => take P T rows p d n _ _ h (by decide) hl
  have e2 : inSeq (Str.ofString "Self") (strsD pathWordsL) = some true := by decide +kernel
  rw [cf _ _ _ _ f42 (by rfl) _ (by rfl)]
  simp [-BEq.rfl, f42, e, e1, e2]
theorem segE (n : Nat) (x : String) (ah : D) (a c : String) (t : List D) (h : rows[p + 1]? = some (.tup (sg a :: sg c :: t))) (hc : lookB a c "::" = false) (hl : rows.length ≤ 1000)
    (h1 : ∀ n, callT (n + 16) 42 [.loc P.length, .d ah] (hp P (wd rows p d) T) = .ok (.d (sg x)) (hp P (wd rows (p + 1) d) T)) :
    callT (n + 20) 39 [.loc P.length, .d ah, .d (.bool true)] (hp P (wd rows p d) T) = .ok (.d (seg x)) (hp P (wd rows (p + 1) d) T) := by
  have e := fun n x => looks P T rows (p + 1) d n _ _ x _ h hl
  rw [cf _ _ _ _ f39 (by rfl) _ (by rfl)]
  simp [-BEq.rfl, f39, e, h1, hc, seg]
theorem segM (n : Nat) (x : String) (ah : D) (a c : String) (s : D) (t t2 : List D) (h : rows[p + 1]? = some (.tup (sg "sign" :: sg "::" :: t2))) (h2 : rows[p + 1 + 1]? = some (.tup (sg a :: sg c :: s :: t))) (hc : lookB a c "<" = false) (hl : rows.length ≤ 1000)
    (h1 : ∀ n, callT (n + 16) 42 [.loc P.length, .d ah] (hp P (wd rows p d) T) = .ok (.d (sg x)) (hp P (wd rows (p + 1) d) T)) :
    callT (n + 20) 39 [.loc P.length, .d ah, .d (.bool true)] (hp P (wd rows p d) T) = .ok (.d (seg x)) (hp P (wd rows (p + 1) d) T) := by
  have e := fun n x => looks P T rows (p + 1) d n _ _ x _ h hl
  have e2 := fun n x => looks1 P T rows (p + 1) d n _ _ x _ h2 hl
  have l : lookB "sign" "::" "::" = true := by decide
  rw [cf _ _ _ _ f39 (by rfl) _ (by rfl)]
  simp [-BEq.rfl, f39, e, e2, h1, hc, l, seg]
theorem next_last (l : List D) (w : O) (L : Hp) (i : Nat) : nextItem (hp P w (T ++ [.list l]) ++ L) (.loc (P.length + T.length + 1)) i = some l[i]? := by
  have e : (hp P w (T ++ [.list l]) ++ L)[P.length + T.length + 1]? = some (.list l) := by
    rw [List.getElem?_append_left (by rw [hp_len]; simp), hp_last]
  show (match (hp P w (T ++ [.list l]) ++ L)[P.length + T.length + 1]? with
    | some (.list l) => some l[i]?
    | _ => Option.none) = _
  rw [e]
theorem segs (n : Nat) (w : O) (x : String) (loc : Loc) (hf : freeOf [(41, .local), (40, .local)] loc = []) :
    compV (n + 2) [(41, .local), (40, .local)] loc (.idx (.nm 40) (.int 0)) (.one 40) [] (.loc (P.length + T.length + 1)) (hp P w (T ++ [.list [seg x]])) = .ok (.d (.list [sg x])) (hp P w (T ++ [.list [seg x]])) := by
  have h := compV_ok (n + 2) [(41, .local), (40, .local)] loc (.idx (.nm 40) (.int 0)) (.one 40) [] (.loc (P.length + T.length + 1)) (hp P w (T ++ [.list [seg x]])) [seg x]
    (fun y => match y with | .tup (a :: _) => some a | _ => none) (fun acc i => next_last P T _ w _ i) (by simp)
    (fun y hy acc => by
      simp at hy
      subst hy
      simp [-BEq.rfl, compF, compC, tgVals, tgNames, hf, seg])
  simpa [seg] using h
theorem spath (n : Nat) (pa : PaK) (a c : String) (t : List D) (w : Wd) (h : Is rows sp p (pa.words ++ [w])) (hw : ∀ s, ∃ t, w.tok s = .tup (sg a :: sg c :: t)) (hc : lookB a c "::" = false) (hl : rows.length ≤ 1000) :
    callT (n + 26) 35 [.loc P.length, .d (.bool true)] (hp P (wd rows p d) T) = .ok (.d pa.tree) (hp P (wd rows (p + pa.words.length) d) T) := by
  revert h hw hc hl; revert P T rows p d sp n pa a c t w
  refine @(eps10 (P := ?P) (dH, dH, du, dN, dI, (default : Nat → Int), dN, PaK.one, (default : String), (default : String)) rfl ((?m : Pi10 ?P) _ _ _ _ _ _ _ _ _ _))
  intro P T rows p d sp n pa a c t w h hw hc hl
  rw [cf _ _ _ _ f35 (by rfl) _ (by rfl)]
  induction pa with
  | one =>
    simp [PaK.words] at h
    have h0 := h.get
    have h1 := h.tl.get
    obtain ⟨t, ht⟩ := hw (sp (p + 1))
    rw [ht] at h1
    simp at h0
    have e1 := fun n T => segE P T rows p d n "P" (.tup []) _ _ _ h1 hc hl (fun n => pathN P T rows p d n "P" (.tup []) _ _ h0 (pl _ (by decide +kernel) (by decide +kernel)) hl)
    have e2 := fun n T x => looks P T rows (p + 1) d n _ _ x _ h1 hl
    simp [-BEq.rfl, f35, e1, e2, LK, whV_step, hc, tup_last, PaK.tree, PaK.words]
  | two =>
    simp [PaK.words] at h
    have h0 := h.get
    have h1 := h.tl.get
    have h2 := h.tl.tl.get
    have h3 := h.tl.tl.tl.get
    obtain ⟨t, ht⟩ := hw (sp (p + 1 + 1 + 1))
    rw [ht] at h3
    simp at h0 h1 h2
    have e1 := fun n T => segM P T rows p d n "P" (.tup []) _ _ _ _ _ h1 h2 (by decide) hl (fun n => pathN P T rows p d n "P" (.tup []) _ _ h0 (pl _ (by decide +kernel) (by decide +kernel)) hl)
    have e2 := fun n T x => looks P T rows (p + 1) d n _ _ x _ h1 hl
    have e3 := fun n T => take P T rows (p + 1) d n _ _ h1 (by decide) hl
    have e4 := fun n T => segE P T rows (p + 1 + 1) d n "Q" (.tup [sg "P"]) _ _ _ h3 hc hl (fun n => pathN P T rows (p + 1 + 1) d n "Q" _ _ _ h2 (pl _ (by decide +kernel) (by decide +kernel)) hl)
    have e5 := fun n T x => looks P T rows (p + 1 + 1 + 1) d n _ _ x _ h3 hl
    have l : lookB "sign" "::" "::" = true := by decide
    have e6 := fun n w loc hf => segs P T n w "P" loc hf
    simp [-BEq.rfl, f35, e1, e2, e3, e4, e5, e6, e_comp, l, LK, whV_step, hc, tup_last, app_last, b_tuple, compOk, freeOf, PaK.tree, PaK.words]
  | slf =>
    simp [PaK.words] at h
    have h0 := h.get
    have h1 := h.tl.get
    have h2 := h.tl.tl.get
    have h3 := h.tl.tl.tl.get
    obtain ⟨t, ht⟩ := hw (sp (p + 1 + 1 + 1))
    rw [ht] at h3
    simp at h0 h1 h2
    have e1 := fun n T => segM P T rows p d n "Self" (.tup []) _ _ _ _ _ h1 h2 (by decide) hl (fun n => pathS P T rows p d n _ _ h0 hl)
    have e2 := fun n T x => looks P T rows (p + 1) d n _ _ x _ h1 hl
    have e3 := fun n T => take P T rows (p + 1) d n _ _ h1 (by decide) hl
    have e4 := fun n T => segE P T rows (p + 1 + 1) d n "A" (.tup [sg "Self"]) _ _ _ h3 hc hl (fun n => pathN P T rows (p + 1 + 1) d n "A" _ _ _ h2 (pl _ (by decide +kernel) (by decide +kernel)) hl)
    have e5 := fun n T x => looks P T rows (p + 1 + 1 + 1) d n _ _ x _ h3 hl
    have l : lookB "sign" "::" "::" = true := by decide
    have e6 := fun n w loc hf => segs P T n w "Self" loc hf
    simp [-BEq.rfl, f35, e1, e2, e3, e4, e5, e6, e_comp, l, LK, whV_step, hc, tup_last, app_last, b_tuple, compOk, freeOf, PaK.tree, PaK.words]
end
end
end Mine.P
end
section
namespace Mine.P
open PySem
noncomputable section
noncomputable def fname (b : Bool) : String := if b then "b" else "a"
noncomputable def fw : List (Bool × PT) → List Wd
  | [] => []
  | x :: r => .s (fname x.1) :: .s ":" :: (x.2.words ++ .s "," :: fw r)
noncomputable def fT (sp : Nat → Int) : Nat → List (Bool × PT) → List D
  | _, [] => []
  | p, x :: r => .tup [sg (fname x.1), x.2.tree sp (p + 2)] :: fT sp (p + 2 + x.2.words.length + 1) r
noncomputable def restW (b : Bool) : List Wd := if b then [.s ".."] else []
theorem fT_len (sp : Nat → Int) (its : List (Bool × PT)) : ∀ p, (fT sp p its).length = its.length := by
  induction its with
  | nil => intro p; rfl
  | cons x r ih => intro p; simp [fT, ih]
section
variable (P T : Hp) (rows : List D) (d : Int) (sp : Nat → Int)
theorem field (n p : Nat) (b : Bool) (x : PT) (h : Is rows sp p (.s (fname b) :: .s ":" :: (x.words ++ [.s ","]))) (hl : rows.length ≤ 1000) (hd : d < 60) :
    callT (n + 41) 70 [.loc P.length] (hp P (wd rows p d) T) = .ok (.d (.tup [sg (fname b), x.tree sp (p + 2)])) (hp P (wd rows (p + 2 + x.words.length) d) T) := by
  have hk : kind (fname b) = "name" := by induction b <;> decide
  have hp : plainB (fname b) := by induction b <;> exact pl _ (by decide +kernel) (by decide +kernel)
  have h0 := h.get
  simp [hk] at h0
  have h1 := h.tl.get
  simp at h1
  have e := fun n => peek P T rows p d n _ h0 hl
  have e1 := fun n H => plain n (fname b) [.int (sp p), .none, .none] H hp.1
  have e2 := fun n x => looks1 P T rows p d n _ _ x _ h1 hl
  have e3 := fun n => take P T rows p d n _ _ h0 (by decide) hl
  have e4 := fun n => take P T rows (p + 1) d n _ _ h1 (by decide) hl
  have e5 := fun n => pattern P T rows (p + 1 + 1) d sp x n _ (Or.inl rfl) h.tl.tl hl hd
  have l : lookB "sign" ":" ":" = true := by decide
  rw [cf _ _ _ _ f70 (by rfl) _ (by rfl)]
  simp [-BEq.rfl, f70, e, e1, e2, e3, e4, e5, l]
theorem loop69 (rest : Bool) (hl : rows.length ≤ 1000) (hd : d < 60) (n : Nat) :
    ∀ (its : List (Bool × PT)) (p : Nat) (acc : List D) (k : Nat), Is rows sp p (fw its ++ (restW rest ++ [.s "}"])) → acc.length + its.length < 500 → its.length + 1 < k →
    whV (n + 45) [(36, .local), (38, .local), (67, .local), (70, .globalImplicit), (4, .globalImplicit)]
      (.not (.meth (.nm 36) 30 [.str (Str.ofString "}")])) [.ifS (.meth (.nm 36) 30 [.str (Str.ofString "..")]) [.expr (.meth (.nm 36) 28 []), .asg 67 (.bool true), .brk] [], .expr (.meth (.nm 38) 11 [.call 70 [.nm 36]]), .ifS (.not (.meth (.nm 36) 30 [.str (Str.ofString ",")])) [.brk] [], .expr (.meth (.nm 36) 28 [])] k
      [(36, .loc P.length), (67, .d (.bool false)), (38, .loc (P.length + T.length + 1))] (hp P (wd rows p d) (T ++ [.list acc])) =
    .ok (.next, [(36, .loc P.length), (67, .d (.bool rest)), (38, .loc (P.length + T.length + 1))])
      (hp P (wd rows (p + (fw its).length + (restW rest).length) d) (T ++ [.list (acc ++ fT sp p its)])) := by
  intro its
  revert hl hd; revert P T rows d sp rest n its
  refine @(eps7 (P := ?P) (dH, dH, du, dI, (default : Nat → Int), dB, dN) rfl ((?m : Pi7 ?P) _ _ _ _ _ _ _))
  intro P T rows d sp rest n its hl hd
  induction its with
  | nil =>
    intro p acc k h ha hk
    obtain ⟨k', rfl⟩ : ∃ k', k = k' + 1 := ⟨k - 1, by simp at hk; lia⟩
    simp at ha
    induction rest with
    | false =>
      simp [fw, restW] at h
      have h0 := h.get
      simp at h0
      have e := fun n T x => looks P T rows p d n _ _ x _ h0 hl
      have l0 : lookB "sign" "}" "}" = true := by decide
      simp [-BEq.rfl, whV_step, e, l0, fw, fT, restW]
    | true =>
      simp [fw, restW] at h
      have h0 := h.get
      simp at h0
      have e := fun n T x => looks P T rows p d n _ _ x _ h0 hl
      have e2 := fun n T => take P T rows p d n _ _ h0 (by decide) hl
      have l0 : lookB "sign" ".." "}" = false := by decide
      have l1 : lookB "sign" ".." ".." = true := by decide
      simp [-BEq.rfl, whV_step, e, e2, l0, l1, fw, fT, restW]
  | cons x its ih =>
    intro p acc k h ha hk
    obtain ⟨k', rfl⟩ : ∃ k', k = k' + 1 := ⟨k - 1, by simp at hk; lia⟩
    simp at ha hk
    simp [fw] at h
    obtain ⟨b, x⟩ := x
    simp at h
    have hkk : kind (fname b) = "name" := by induction b <;> decide
    have h0 := h.get
    simp [hkk] at h0
    have h1 := h.tl.tl.r.get
    simp at h1
    have hf : Is rows sp p (.s (fname b) :: .s ":" :: (x.words ++ [.s ","])) := Is.l (b := fw its ++ (restW rest ++ [.s "}"])) (by simpa using h)
    have e := fun n T x => looks P T rows p d n _ _ x _ h0 hl
    have e2 := fun n T => field P T rows d sp n p b x hf hl hd
    have e3 := fun n T y => looks P T rows (p + 1 + 1 + x.words.length) d n _ _ y _ h1 hl
    have e4 := fun n T => take P T rows (p + 1 + 1 + x.words.length) d n _ _ h1 (by decide) hl
    have l0 : lookB "sign" "," "," = true := by decide
    have l1 : ∀ x ∈ ["}", ".."], lookB "name" (fname b) x = false := by induction b <;> decide
    simp at l1
    have e5 := ih (p + 1 + 1 + x.words.length + 1) (acc ++ [.tup [sg (fname b), x.tree sp (p + 2)]]) k' h.tl.tl.r.tl (by simp; lia) (by lia)
    simp only [show p + 1 + 1 = p + 2 by lia] at e3 e4 e5
    simp [-BEq.rfl, whV_step, e, e2, e3, e4, l0, l1, app_last P T _ acc _ (by lia), e5, fw, fT]
    simp [Nat.add_assoc, Nat.add_comm, Nat.add_left_comm]
    congr 2
    lia
theorem fields (n p : Nat) (its : List (Bool × PT)) (rest : Bool) (h : Is rows sp p (.s "{" :: (fw its ++ (restW rest ++ [.s "}"])))) (hl : rows.length ≤ 1000) (hd : d < 60) (hi : its.length < 400) :
    callT (n + 48) 69 [.loc P.length] (hp P (wd rows p d) T) = .ok (.d (.tup [.tup (fT sp (p + 1) its), .bool rest])) (hp P (wd rows (p + 1 + (fw its).length + (restW rest).length + 1) d) T) := by
  have h0 := h.get
  simp at h0
  have h1 := h.tl.r.r.get
  simp at h1
  have e := fun n T => expect P T rows p d n _ _ _ h0 (by decide) hl
  have e1 := loop69 P T rows d sp rest hl hd (n + 1) its (p + 1) [] LK h.tl (by simp; lia) (by unfold LK; lia)
  have e2 := fun n T => expect P T rows (p + 1 + (fw its).length + (restW rest).length) d n _ _ _ h1 (by decide) hl
  have e4 := tup_last P T (wd rows (p + 1 + (fw its).length + (restW rest).length + 1) d) (fT sp (p + 1) its) (by simp [fT_len]; lia)
  rw [cf _ _ _ _ f69 (by rfl) _ (by rfl)]
  simp at e e1 e2 e4
  simp [-BEq.rfl, f69, e, e1, e2, e4]
theorem pa_head (pa : PaK) (s : Int) : ∃ w b, pa.words = w :: b ∧ ∃ a t, w.tok s = .tup (sg "name" :: sg a :: .int s :: t) := by
  induction pa <;> exact ⟨_, _, rfl, _, _, rfl⟩
theorem variant0 (n p : Nat) (pa : PaK) (h : Is rows sp p (pa.words ++ [.s ")"])) (hl : rows.length ≤ 1000) :
    callT (n + 53) 54 [.loc P.length] (hp P (wd rows p d) T) = .ok (.d (.tup [sg "variant", .int (sp p), pa.tree, .tup []])) (hp P (wd rows (p + pa.words.length) d) T) := by
  obtain ⟨w, b, hw, a, t, ht⟩ := pa_head pa (sp p)
  have h0 := h
  rw [hw] at h0
  have h0 := h0.get
  rw [ht] at h0
  have h1 := h.r.get
  simp at h1
  have e := fun n => peek P T rows p d n _ h0 hl
  have e1 := fun n => spath P T rows p d sp n pa _ _ t _ h (fun s => ⟨_, rfl⟩) (by decide) hl
  have e2 := fun n x => looks P T rows (p + pa.words.length) d n _ _ x _ h1 hl
  have l : ∀ x ∈ ["(", "{"], lookB "sign" ")" x = false := by decide
  simp at l
  rw [cf _ _ _ _ f54 (by rfl) _ (by rfl)]
  simp [-BEq.rfl, f54, e, e1, e2, l]
theorem variant1 (n p : Nat) (pa : PaK) (its : List PT) (fin : Option PT) (h : Is rows sp p (pa.words ++ .s "(" :: (cw its ++ (finW fin ++ [.s ")"])))) (hl : rows.length ≤ 1000) (hd : d < 60) (hi : its.length < 400) :
    callT (n + 53) 54 [.loc P.length] (hp P (wd rows p d) T) = .ok (.d (.tup [sg "variant", .int (sp p), pa.tree, .tup (cwT sp (p + pa.words.length + 1) its ++ finT sp (p + pa.words.length + 1 + (cw its).length) fin)])) (hp P (wd rows (p + pa.words.length + 1 + (cw its).length + (finW fin).length + 1) d) T) := by
  revert h hl hd hi; revert P T rows d sp n p pa its fin
  refine @(eps10 (P := ?P) (dH, dH, du, dI, (default : Nat → Int), dN, dN, PaK.one, (default : List Mine.P.PT), (default : Option Mine.P.PT)) rfl ((?m : Pi10 ?P) _ _ _ _ _ _ _ _ _ _))
  intro P T rows d sp n p pa its fin h hl hd hi
  obtain ⟨w, b, hw, a, t, ht⟩ := pa_head pa (sp p)
  have h0 := h
  rw [hw] at h0
  have h0 := h0.get
  rw [ht] at h0
  have h1 := h.r.get
  simp at h1
  have h2 : Is rows sp p (pa.words ++ [.s "("]) := Is.l (b := cw its ++ (finW fin ++ [.s ")"])) (by simpa using h)
  have e := fun n => peek P T rows p d n _ h0 hl
  have e1 := fun n => spath P T rows p d sp n pa _ _ t _ h2 (fun s => ⟨_, rfl⟩) (by decide) hl
  have e2 := fun n x => looks P T rows (p + pa.words.length) d n _ _ x _ h1 hl
  have e3 := fun n => places P T rows d sp n _ its fin h.r hl hd hi
  have l : lookB "sign" "(" "(" = true := by decide
  rw [cf _ _ _ _ f54 (by rfl) _ (by rfl)]
  simp [-BEq.rfl, f54, e, e1, e2, e3, l]
theorem variantX (n p : Nat) (pa : PaK) (its : List PT) (x : PT) (h : Is rows sp p (pa.words ++ .s "(" :: (cw its ++ (x.words ++ [.s "c"])))) (hl : rows.length ≤ 1000) (hd : d < 60) (hi : its.length < 400) :
    callT (n + 53) 54 [.loc P.length] (hp P (wd rows p d) T) = .exc (Str.ofString ")" ++ Str.ofString " is missing") (.int (sp (p + pa.words.length + 1 + (cw its).length + x.words.length))) (hp P (wd rows (p + pa.words.length + 1 + (cw its).length + x.words.length) d) T) := by
  revert h hl hd hi; revert P T rows d sp n p pa its x
  refine @(eps10 (P := ?P) (dH, dH, du, dI, (default : Nat → Int), dN, dN, PaK.one, (default : List Mine.P.PT), (PT.mk false PK.wild none)) rfl ((?m : Pi10 ?P) _ _ _ _ _ _ _ _ _ _))
  intro P T rows d sp n p pa its x h hl hd hi
  obtain ⟨w, b, hw, a, t, ht⟩ := pa_head pa (sp p)
  have h0 := h
  rw [hw] at h0
  have h0 := h0.get
  rw [ht] at h0
  have h1 := h.r.get
  simp at h1
  have h2 : Is rows sp p (pa.words ++ [.s "("]) := Is.l (b := cw its ++ (x.words ++ [.s "c"])) (by simpa using h)
  have e := fun n => peek P T rows p d n _ h0 hl
  have e1 := fun n => spath P T rows p d sp n pa _ _ t _ h2 (fun s => ⟨_, rfl⟩) (by decide) hl
  have e2 := fun n x => looks P T rows (p + pa.words.length) d n _ _ x _ h1 hl
  have e3 := fun n => placesX P T rows d sp n _ its x h.r hl hd hi
  have l : lookB "sign" "(" "(" = true := by decide
  rw [cf _ _ _ _ f54 (by rfl) _ (by rfl)]
  simp [-BEq.rfl, f54, e, e1, e2, e3, l]
theorem variant2 (n p : Nat) (pa : PaK) (its : List (Bool × PT)) (rest : Bool) (h : Is rows sp p (pa.words ++ .s "{" :: (fw its ++ (restW rest ++ [.s "}"])))) (hl : rows.length ≤ 1000) (hd : d < 60) (hi : its.length < 400) :
    callT (n + 53) 54 [.loc P.length] (hp P (wd rows p d) T) = .ok (.d (.tup [sg "fields", .int (sp p), pa.tree, .tup (fT sp (p + pa.words.length + 1) its), .bool rest])) (hp P (wd rows (p + pa.words.length + 1 + (fw its).length + (restW rest).length + 1) d) T) := by
  revert h hl hd hi; revert P T rows d sp n p pa its rest
  refine @(eps10 (P := ?P) (dH, dH, du, dI, (default : Nat → Int), dN, dN, PaK.one, (default : List (Bool × Mine.P.PT)), dB) rfl ((?m : Pi10 ?P) _ _ _ _ _ _ _ _ _ _))
  intro P T rows d sp n p pa its rest h hl hd hi
  obtain ⟨w, b, hw, a, t, ht⟩ := pa_head pa (sp p)
  have h0 := h
  rw [hw] at h0
  have h0 := h0.get
  rw [ht] at h0
  have h1 := h.r.get
  simp at h1
  have h2 : Is rows sp p (pa.words ++ [.s "{"]) := Is.l (b := fw its ++ (restW rest ++ [.s "}"])) (by simpa using h)
  have e := fun n => peek P T rows p d n _ h0 hl
  have e1 := fun n => spath P T rows p d sp n pa _ _ t _ h2 (fun s => ⟨_, rfl⟩) (by decide) hl
  have e2 := fun n x => looks P T rows (p + pa.words.length) d n _ _ x _ h1 hl
  have e3 := fun n => fields P T rows d sp n _ its rest h.r hl hd hi
  have l : lookB "sign" "{" "{" = true := by decide
  have l2 : lookB "sign" "{" "(" = false := by decide
  rw [cf _ _ _ _ f54 (by rfl) _ (by rfl)]
  simp [-BEq.rfl, f54, e, e1, e2, e3, l, l2]
end
end
end Mine.P
end
section
namespace Mine.P
open PySem
noncomputable section
section
variable (P T : Hp) (rows : List D) (p : Nat) (d : Int)
theorem takeE (n : Nat) (t : List D) (h : rows[p]? = some (.tup (sg "end" :: t))) (hl : rows.length ≤ 1000) :
    callT (n + 11) 1028 [.loc P.length] (hp P (wd rows p d) T) = .ok (.d (.tup (sg "end" :: t))) (hp P (wd rows p d) T) := by
  rw [cf _ _ _ _ f1028 (by rfl) _ (by rfl)]
  have e := fun n => peek P T rows p d n _ h hl
  simp [-BEq.rfl, f1028, e]
theorem wholeXP (n : Nat) (a b : String) (s : D) (t : List D) (h : rows[p]? = some (.tup (sg a :: sg b :: s :: t))) (ha : a ≠ "int") (ha2 : a ≠ "end") (hm : lookB a b "-" = false) (hl : rows.length ≤ 1000) :
    callT (n + 15) 61 [.loc P.length] (hp P (wd rows p d) T) = .exc (Str.ofString "a number is missing") s (hp P (wd rows (p + 1) d) T) := by
  have e := fun n x => looks P T rows p d n _ _ x _ h hl
  have e2 := fun n => take P T rows p d n _ _ h ha2 hl
  rw [cf _ _ _ _ f61 (by rfl) _ (by rfl)]
  simp [-BEq.rfl, f61, e, e2, hm, ha]
theorem wholeXM (n : Nat) (s0 : Int) (a b : String) (s : D) (t : List D) (h0 : rows[p]? = some (tkS "-" s0)) (h : rows[p + 1]? = some (.tup (sg a :: sg b :: s :: t))) (ha : a ≠ "int") (ha2 : a ≠ "end") (hl : rows.length ≤ 1000) :
    callT (n + 15) 61 [.loc P.length] (hp P (wd rows p d) T) = .exc (Str.ofString "a number is missing") s (hp P (wd rows (p + 2) d) T) := by
  have e := fun n x => looks P T rows p d n _ _ x _ h0 hl
  have e1 := fun n => take P T rows p d n _ _ h0 (by decide) hl
  have e2 := fun n => take P T rows (p + 1) d n _ _ h ha2 hl
  have l : lookB "sign" "-" "-" = true := by decide
  rw [cf _ _ _ _ f61 (by rfl) _ (by rfl)]
  simp [-BEq.rfl, f61, e, e1, e2, l, ha]
theorem wholeXE (n : Nat) (s0 : Int) (s : D) (t : List D) (h0 : rows[p]? = some (tkS "-" s0)) (h : rows[p + 1]? = some (.tup (sg "end" :: sg "" :: s :: t))) (hl : rows.length ≤ 1000) :
    callT (n + 15) 61 [.loc P.length] (hp P (wd rows p d) T) = .exc (Str.ofString "a number is missing") s (hp P (wd rows (p + 1) d) T) := by
  have e := fun n x => looks P T rows p d n _ _ x _ h0 hl
  have e1 := fun n => take P T rows p d n _ _ h0 (by decide) hl
  have e2 := fun n => takeE P T rows (p + 1) d n _ h hl
  have l : lookB "sign" "-" "-" = true := by decide
  rw [cf _ _ _ _ f61 (by rfl) _ (by rfl)]
  simp [-BEq.rfl, f61, e, e1, e2, l]
theorem wholeUP (n : Nat) (b : String) (s k : Int) (h : rows[p]? = some (tkU b s k)) (hl : rows.length ≤ 1000) :
    callT (n + 15) 61 [.loc P.length] (hp P (wd rows p d) T) = .exc (Str.ofString "a number of a pattern tells no kind") (.int s) (hp P (wd rows (p + 1) d) T) := by
  have e := fun n x => looks P T rows p d n _ _ x _ h hl
  have e2 := fun n => take P T rows p d n _ _ h (by decide) hl
  rw [cf _ _ _ _ f61 (by rfl) _ (by rfl)]
  simp [-BEq.rfl, f61, e, e2, lookB]
theorem wholeUM (n : Nat) (b : String) (s0 s k : Int) (h0 : rows[p]? = some (tkS "-" s0)) (h : rows[p + 1]? = some (tkU b s k)) (hl : rows.length ≤ 1000) :
    callT (n + 15) 61 [.loc P.length] (hp P (wd rows p d) T) = .exc (Str.ofString "a number of a pattern tells no kind") (.int s) (hp P (wd rows (p + 2) d) T) := by
  have e := fun n x => looks P T rows p d n _ _ x _ h0 hl
  have e1 := fun n => take P T rows p d n _ _ h0 (by decide) hl
  have e2 := fun n => take P T rows (p + 1) d n _ _ h (by decide) hl
  have l : lookB "sign" "-" "-" = true := by decide
  rw [cf _ _ _ _ f61 (by rfl) _ (by rfl)]
  simp [-BEq.rfl, f61, e, e1, e2, l]
end
noncomputable def Src (S : O) : Prop := ∃ a b : Int, S = .list [.int a, .int b] ∧ 0 ≤ b ∧ b < 2147483647
@[simp] theorem b_int (a : Int) (H : Hp) : bltnC 3 [.d (.int a)] H = .ok (.d (.int a)) H := by simp only [binC_eq, idxC_eq, bltnC_eq, slC_eq, strC_eq]; rfl
@[simp] theorem b_intT (H : Hp) : bltnC 3 [.d (.bool true)] H = .ok (.d (.int 1)) H := by simp only [binC_eq, idxC_eq, bltnC_eq, slC_eq, strC_eq]; rfl
@[simp] theorem b_intF (H : Hp) : bltnC 3 [.d (.bool false)] H = .ok (.d (.int 0)) H := by simp only [binC_eq, idxC_eq, bltnC_eq, slC_eq, strC_eq]; rfl
theorem b_mod (a b : Int) (H : Hp) (h0 : 0 < b) (h1 : b < 2147483648) : binC .Mod (.d (.int a)) (.d (.int b)) H = .ok (.d (.int (a.fmod b))) H := by
  simp only [binC_eq, idxC_eq, bltnC_eq, slC_eq, strC_eq]
  show R.guard (divOk b) _ = _
  rw [show divOk b = true by unfold divOk; rw [decide_eq_true h0, decide_eq_true h1]; rfl]; rfl
theorem b_div (a b : Int) (H : Hp) (h0 : 0 < b) (h1 : b < 1073741824) : binC .FloorDiv (.d (.int a)) (.d (.int b)) H = .ok (.d (.int (a.fdiv b))) H := by
  simp only [binC_eq, idxC_eq, bltnC_eq, slC_eq, strC_eq]
  show R.guard (fdivOk b) _ = _
  rw [show fdivOk b = true by unfold fdivOk; rw [decide_eq_true h0, decide_eq_true h1]; rfl]; rfl
theorem small_of {b : Int} (h0 : -2147483648 ≤ b) (h1 : b < 2147483648) : smallI b = true := by
  unfold smallI
  rw [decide_eq_true (Int.le_trans (by decide : (-9223372036854775808 : Int) ≤ -2147483648) h0), decide_eq_true (Int.lt_trans h1 (by decide))]; rfl
theorem b_mulR (a b : Int) (H : Hp) (h0 : -2147483648 ≤ b) (h1 : b < 2147483648) : binC .Mult (.d (.int a)) (.d (.int b)) H = .ok (.d (.int (a * b))) H := by
  simp only [binC_eq, idxC_eq, bltnC_eq, slC_eq, strC_eq]
  show R.guard (smallI a || smallI b) _ = _
  rw [small_of h0 h1, Bool.or_true]; rfl
noncomputable def asgSL (loc : Loc) (j : Nat) (k : Int) (d : D) (H : Hp) (o : Option O) : R (Fl × Loc) := match o with
        | some (.list l) => R.guard (decide (0 ≤ k) && decide (k < l.length) && decide (k < 9223372036854775808)) (.ok (.next, loc) (H.set j (.list (l.set k.toNat d))))
        | _ => .bad
noncomputable def asgSV (loc : Loc) (v ov iv : V) (H : Hp) : R (Fl × Loc) := match v, ov, iv with
      | .d d, .loc j, .d (.int k) => asgSL loc j k d H H[j]?
      | _, _, _ => .bad
noncomputable def asgS2K (n : Nat) (ks : Ks) (loc : Loc) (i : Ex) (v ov : V) (H : Hp) : R (Fl × Loc) := (evalC n ks loc i H).bnd (asgSV loc v ov)
@[simp] theorem asgS2K_eq (n : Nat) (ks : Ks) (loc : Loc) (i : Ex) (v ov : V) (H : Hp) : asgS2K n ks loc i v ov H = (evalC n ks loc i H).bnd (asgSV loc v ov) := (rfl)
noncomputable def asgS1K (n : Nat) (ks : Ks) (loc : Loc) (o i : Ex) (v : V) (H : Hp) : R (Fl × Loc) := (evalC n ks loc o H).bnd (asgS2K n ks loc i v)
@[simp] theorem asgS1K_eq (n : Nat) (ks : Ks) (loc : Loc) (o i : Ex) (v : V) (H : Hp) : asgS1K n ks loc o i v H = (evalC n ks loc o H).bnd (asgS2K n ks loc i v) := (rfl)
@[simp] theorem s_asgS (n : Nat) (ks : Ks) (loc : Loc) (H : Hp) (o i e : Ex) : execC (n + 1) ks loc (.asgS o i e) H = (evalC n ks loc e H).bnd (asgS1K n ks loc o i) := (rfl)
@[simp] theorem asgS0 (loc : Loc) (d a b : D) (T : Hp) : asgSV loc (.d d) (.loc 0) (.d (.int 0)) (O.list [a, b] :: T) = .ok (.next, loc) (O.list [d, b] :: T) := (rfl)
@[simp] theorem asgS1 (loc : Loc) (d a b : D) (T : Hp) : asgSV loc (.d d) (.loc 0) (.d (.int 1)) (O.list [a, b] :: T) = .ok (.next, loc) (O.list [a, d] :: T) := (rfl)
@[simp] theorem idxS0 (a b : D) (T : Hp) : idxC (.loc 0) (.d (.int 0)) (O.list [a, b] :: T) = .ok (.d a) (O.list [a, b] :: T) := by simp only [binC_eq, idxC_eq, bltnC_eq, slC_eq, strC_eq]; rfl
@[simp] theorem idxS1 (a b : D) (T : Hp) : idxC (.loc 0) (.d (.int 1)) (O.list [a, b] :: T) = .ok (.d b) (O.list [a, b] :: T) := by simp only [binC_eq, idxC_eq, bltnC_eq, slC_eq, strC_eq]; rfl
theorem draw (S : O) (hS : Src S) (top : Int) (h0 : 0 < top) (h1 : top < 1000000) :
    ∃ (r : Nat) (S' : O), (r : Int) < top ∧ Src S' ∧ ∀ n T, callT (n + 12) 78 [.loc 0, .d (.int top)] (S :: T) = .ok (.d (.int r)) (S' :: T) := by
  obtain ⟨a, b, rfl, hb0, hb1⟩ := hS
  by_cases ha : 0 < a
  · refine ⟨(a.fmod top).toNat, .list [.int (a.fdiv top), .int b], ?_, ⟨_, _, rfl, hb0, hb1⟩, ?_⟩
    · have := Int.fmod_lt_of_pos a h0
      have := Int.fmod_nonneg_of_pos a h0
      lia
    · intro n T
      have e : ((a.fmod top).toNat : Int) = a.fmod top := Int.toNat_of_nonneg (Int.fmod_nonneg_of_pos a h0)
      rw [cf _ _ _ _ f78 (by rfl) _ (by rfl), e]
      have e1 := fun H => b_mod a top H h0 (by lia)
      have e2 := fun H => b_div a top H h0 (by lia)
      simp [-BEq.rfl, f78, ha, e1, e2]
  · have hc0 := Int.fmod_nonneg_of_pos (b * 39373 + 7) (show (0 : Int) < 2147483647 by decide)
    have hc1 := Int.fmod_lt_of_pos (b * 39373 + 7) (show (0 : Int) < 2147483647 by decide)
    generalize hc : (b * 39373 + 7).fmod 2147483647 = c at hc0 hc1
    refine ⟨((((c * c).fmod 2147483629).fdiv 32).fmod top).toNat, .list [.int a, .int c], ?_, ⟨_, _, rfl, hc0, hc1⟩, ?_⟩
    · have := Int.fmod_lt_of_pos (((c * c).fmod 2147483629).fdiv 32) h0
      have := Int.fmod_nonneg_of_pos (((c * c).fmod 2147483629).fdiv 32) h0
      lia
    · intro n T
      have e : (((((c * c).fmod 2147483629).fdiv 32).fmod top).toNat : Int) = (((c * c).fmod 2147483629).fdiv 32).fmod top := Int.toNat_of_nonneg (Int.fmod_nonneg_of_pos _ h0)
      rw [cf _ _ _ _ f78 (by rfl) _ (by rfl), e]
      have e1 := fun H => b_mulR b 39373 H (by decide) (by decide)
      have e2 := fun H => b_mod (b * 39373 + 7) 2147483647 H (by decide) (by decide)
      rw [hc] at e2
      have e3 := fun H => b_mulR c c H (by lia) (by lia)
      have e4 := fun H => b_mod (c * c) 2147483629 H (by decide) (by decide)
      have e5 := fun H => b_div ((c * c).fmod 2147483629) 32 H (by decide) (by decide)
      have e6 := fun H => b_mod (((c * c).fmod 2147483629).fdiv 32) top H h0 (by lia)
      simp [-BEq.rfl, f78, ha, e1, e2, e3, e4, e5, e6]
end
end Mine.P
end
section
namespace Mine.P
open PySem
noncomputable section
theorem len_L (l : List D) (H : Hp) (hl : l.length < 1000) : bltnC 0 [.d (.list l)] H = .ok (.d (.int l.length)) H := by
  simp only [binC_eq, idxC_eq, bltnC_eq, slC_eq, strC_eq]
  have e2 : decide (l.length ≤ line) = true := by
    unfold line
    simp only [decide_eq_true_eq]; lia
  show R.guard (decide (l.length ≤ line)) (retI l.length H) = _
  rw [e2]; rfl
theorem idx_L (l : List D) (r : Nat) (x : D) (H : Hp) (h : l[r]? = some x) (hl : l.length < 1000) : idxC (.d (.list l)) (.d (.int r)) H = .ok (.d x) H := by
  have hr := (List.getElem?_eq_some_iff.mp h).1
  rw [idxL, decide_eq_true (by lia), decide_eq_true (big_lt (by lia)), Int.toNat_natCast, h]
  rfl
theorem one (S : O) (hS : Src S) (l : List D) (h0 : 0 < l.length) (h1 : l.length < 100) :
    ∃ (x : D) (S' : O), x ∈ l ∧ Src S' ∧ ∀ n T, callT (n + 17) 82 [.loc 0, .d (.list l)] (S :: T) = .ok (.d x) (S' :: T) := by
  obtain ⟨r, S', hr, hS', e⟩ := draw S hS l.length (by lia) (by lia)
  have hr' : r < l.length := by lia
  refine ⟨l[r], S', List.getElem_mem hr', hS', fun n T => ?_⟩
  have e1 := fun H => len_L l H (by lia)
  have e2 := fun H => idx_L l r l[r] H (List.getElem?_eq_getElem hr') (by lia)
  rw [cf _ _ _ _ f82 (by rfl) _ (by rfl)]
  simp [-BEq.rfl, f82, e, e1, e2]
noncomputable def wordD (w : Wd) : D := sg w.text
noncomputable def ix (i : Nat) : Int := i
noncomputable def PK.okay : PK → Prop
  | .lit k => k < 1000
  | .neg k => k < 1000
  | .rng k => k < 1000
  | _ => True
theorem blt_7 (i : Int) (H : Hp) : bltn 7 [.d (.int i)] H = R.guard (smallI i) (retS (Str.ofString (toString i)) H) := rfl
theorem b_str (r : Nat) (H : Hp) (h : r < 1000) : bltnC 7 [.d (.int r)] H = .ok (.d (sg (Nat.repr r))) H := by
  rw [bltnC_eq, blt_7, small_of (by lia) (by lia)]
  rfl
theorem part_gen (S : O) (hS : Src S) : ∃ (k : PK) (S' : O), k.okay ∧ Src S' ∧ ∀ n T (s : Int),
    callT (n + 21) 94 [.loc 0, .d (.int s)] (S :: T) = .ok (.d (.tup [.list (k.words.map wordD), k.tree s])) (S' :: T) := by
  obtain ⟨r, S1, hr, hS1, e1⟩ := draw S hS 6 (by decide) (by decide)
  obtain ⟨m, S2, hm, hS2, e2⟩ := draw S1 hS1 300 (by decide) (by decide)
  obtain ⟨x, S3, hx, hS3, e3⟩ := one S2 hS2 [sg "a", sg "b_"] (by decide) (by decide)
  have e4 := fun H => b_str m H (by lia)
  match r, hr, e1 with
  | 0, _, e1 =>
    refine ⟨.wild, S2, trivial, hS2, fun n T s => ?_⟩
    rw [cf _ _ _ _ f94 (by rfl) _ (by rfl)]
    simp at e1
    simp [-BEq.rfl, f94, e1, e2, PK.words, PK.tree, wordD, Wd.text]
  | 1, _, e1 =>
    refine ⟨.lit m, S2, show m < 1000 by lia, hS2, fun n T s => ?_⟩
    rw [cf _ _ _ _ f94 (by rfl) _ (by rfl)]
    simp at e1
    simp [-BEq.rfl, f94, e1, e2, e4, PK.words, PK.tree, wordD, Wd.text]
  | 2, _, e1 =>
    refine ⟨.neg m, S2, show m < 1000 by lia, hS2, fun n T s => ?_⟩
    rw [cf _ _ _ _ f94 (by rfl) _ (by rfl)]
    simp at e1
    simp [-BEq.rfl, f94, e1, e2, e4, PK.words, PK.tree, wordD, Wd.text]
  | 3, _, e1 =>
    refine ⟨.bool (decide (m % 2 = 0)), S2, trivial, hS2, fun n T s => ?_⟩
    rw [cf _ _ _ _ f94 (by rfl) _ (by rfl)]
    simp at e1
    have e5 := fun H => b_mod (m : Int) 2 H (by decide) (by decide)
    have e6 : (m : Int).fmod 2 = ((m % 2 : Nat) : Int) := by
      rw [Int.fmod_eq_emod_of_nonneg _ (by decide)]; lia
    rcases Nat.mod_two_eq_zero_or_one m with h | h
    · rw [h] at e6
      rw [e6] at e5
      have e7 := fun H => idx_L [sg "true", sg "false"] 0 (sg "true") H rfl (by decide)
      simp at e5 e7
      simp [-BEq.rfl, f94, e1, e2, e5, e7, h, PK.words, PK.tree, wordD, Wd.text]
    · rw [h] at e6
      rw [e6] at e5
      have e7 := fun H => idx_L [sg "true", sg "false"] 1 (sg "false") H rfl (by decide)
      simp at e5 e7
      simp [-BEq.rfl, f94, e1, e2, e5, e7, h, PK.words, PK.tree, wordD, Wd.text]
  | 4, _, e1 =>
    refine ⟨.rng m, S2, show m < 1000 by lia, hS2, fun n T s => ?_⟩
    rw [cf _ _ _ _ f94 (by rfl) _ (by rfl)]
    simp at e1
    simp [-BEq.rfl, f94, e1, e2, e4, PK.words, PK.tree, wordD, Wd.text]
    first | decide | kernel_rfl
  | 5, _, e1 =>
    simp at hx
    rcases hx with rfl | rfl
    · refine ⟨.nam false, S3, trivial, hS3, fun n T s => ?_⟩
      rw [cf _ _ _ _ f94 (by rfl) _ (by rfl)]
      simp at e1
      simp [-BEq.rfl, f94, e1, e2, e3, PK.words, PK.tree, wordD, Wd.text, namT]
    · refine ⟨.nam true, S3, trivial, hS3, fun n T s => ?_⟩
      rw [cf _ _ _ _ f94 (by rfl) _ (by rfl)]
      simp at e1
      simp [-BEq.rfl, f94, e1, e2, e3, PK.words, PK.tree, wordD, Wd.text, namT]
  | r + 6, hr, _ => exact absurd hr (by lia)
end
end Mine.P
end
section
namespace Mine.P
open PySem
noncomputable section
theorem b_range (m : Nat) (H : Hp) (h : m < 1000) : bltnC 8 [.d (.int m)] H = .ok (.d (.rng m)) H := by
  simp only [binC_eq, idxC_eq, bltnC_eq, slC_eq, strC_eq]
  show R.guard (decide (0 ≤ (m : Int)) && decide ((m : Int) ≤ 1000000)) _ = _
  rw [decide_eq_true (by lia), decide_eq_true (by lia)]; rfl
@[simp] theorem b_range1 (H : Hp) : bltnC 8 [.d (.int 1)] H = .ok (.d (.rng 1)) H := b_range 1 H (by decide)
@[simp] theorem b_range2 (H : Hp) : bltnC 8 [.d (.int 2)] H = .ok (.d (.rng 2)) H := b_range 2 H (by decide)
theorem b_addL (x y : List D) (H : Hp) (h : x.length + y.length < 10000) : binC .Add (.d (.list x)) (.d (.list y)) H = .ok (.d (.list (x ++ y))) H := by
  simp only [binC_eq, idxC_eq, bltnC_eq, slC_eq, strC_eq]
  have e2 : decide (x.length + y.length ≤ line) = true := by
    unfold line
    simp only [decide_eq_true_eq]; lia
  show R.guard (decide (x.length + y.length ≤ line)) _ = _
  rw [e2]; rfl
@[simp] theorem b_mulL0 (a : D) (H : Hp) : binC .Mult (.d (.list [a])) (.d (.int 0)) H = .ok (.d (.list [])) H := by simp only [binC_eq, idxC_eq, bltnC_eq, slC_eq, strC_eq]; rfl
@[simp] theorem b_mulL1 (a : D) (H : Hp) : binC .Mult (.d (.list [a])) (.d (.int 1)) H = .ok (.d (.list [a])) H := by simp only [binC_eq, idxC_eq, bltnC_eq, slC_eq, strC_eq]; rfl
@[simp] theorem idxL0 (l : List D) (a : D) (H : Hp) : idxC (.d (.list (a :: l))) (.d (.int 0)) H = .ok (.d a) H := by simp only [binC_eq, idxC_eq, bltnC_eq, slC_eq, strC_eq]; rfl
theorem forV_r1 (n : Nat) (ks : Ks) (x : Nat) (b : List St) (loc : Loc) (H : Hp) :
    forV tab n ks x b loc (.d (.rng 1)) H = R.guard (isStC ks x) (forD (bodyD n ks x b) [.int 0] loc H).only := forV_rng n ks x b loc 1 H (by decide)
theorem forV_r2 (n : Nat) (ks : Ks) (x : Nat) (b : List St) (loc : Loc) (H : Hp) :
    forV tab n ks x b loc (.d (.rng 2)) H = R.guard (isStC ks x) (forD (bodyD n ks x b) [.int 0, .int 1] loc H).only := forV_rng n ks x b loc 2 H (by decide)
noncomputable def PT.okay (x : PT) : Prop := x.fst.okay ∧ ∀ k, x.snd = some k → k.okay
theorem PK.len_le (k : PK) : k.words.length ≤ 3 := by induction k <;> simp [PK.words]
noncomputable def b2n (b : Bool) : Nat := if b then 1 else 0
theorem b_intB (b : Bool) (H : Hp) : bltnC 3 [.d (.bool b)] H = .ok (.d (.int (b2n b))) H := by simp only [bltnC_eq]; induction b <;> rfl
noncomputable def barW (b : Bool) : List Wd := if b then [.s "|"] else []
theorem barW_len (b : Bool) : (barW b).length = b2n b := by induction b <;> rfl
theorem b2n_le (b : Bool) : b2n b ≤ 1 := by induction b <;> decide
theorem b_mulBar (b : Bool) (H : Hp) : binC .Mult (.d (.list [sg "|"])) (.d (.int (b2n b))) H = .ok (.d (.list ((barW b).map wordD))) H := by simp only [binC_eq]; induction b <;> rfl
theorem pattern_gen (S : O) (hS : Src S) : ∃ (x : PT) (S' : O), x.okay ∧ Src S' ∧ ∀ n T (p : Nat),
    callT (n + 26) 97 [.loc 0, .d (.int p)] (S :: T) = .ok (.d (.tup [.list (x.words.map wordD), x.tree ix p])) (S' :: T) := by
  obtain ⟨r, S1, hr, hS1, e1⟩ := draw S hS 5 (by decide) (by decide)
  obtain ⟨m, S2, hm, hS2, e2⟩ := one S1 hS1 [.int 1, .int 1, .int 2] (by decide) (by decide)
  obtain ⟨k, S3, hk, hS3, e3⟩ := part_gen S2 hS2
  obtain ⟨k2, S4, hk2, hS4, e4⟩ := part_gen S3 hS3
  have l1 := k.len_le
  have l2 := k2.len_le
  have hm' : m = .int 1 ∨ m = .int 2 := by simp at hm; rcases hm with h | h <;> simp [h]
  have hA (b : Bool) : (if b then 1 else 0) = b2n b := rfl
  have hB (b : Bool) : (if b then [Wd.s "|"] else []) = barW b := rfl
  obtain ⟨b, hb⟩ : ∃ b, decide ((r : Int) = 0) = b := ⟨_, rfl⟩
  have ec : decide (r = 0) = b := by rw [← hb]; simp
  have lb := barW_len b
  have lb2 := b2n_le b
  have h3 := fun H => b_addL ((barW b).map wordD) (k.words.map wordD) H (by simp; lia)
  have h5 := fun x H => b_addL [] [x] H (by simp)
  have h6 := fun H => len_L ((barW b).map wordD) H (by simp; lia)
  simp [lb] at h6
  rcases hm' with rfl | rfl
  · refine ⟨⟨b, k, none⟩, S3, ⟨hk, by simp⟩, hS3, fun n T p => ?_⟩
    rw [cf _ _ _ _ f97 (by rfl) _ (by rfl)]
    simp at h5
    simp [-BEq.rfl, f97, e1, e2, e3, ec, b_intB, b_mulBar, forV_r1, bodyD, h3, h5, h6, PT.words, PT.tree, PT.a, ix, hA, hB]
  · refine ⟨⟨b, k, some k2⟩, S4, ⟨hk, by simpa using hk2⟩, hS4, fun n T p => ?_⟩
    rw [cf _ _ _ _ f97 (by rfl) _ (by rfl)]
    have h8 := fun H => b_addL ((barW b).map wordD ++ k.words.map wordD) [wordD (.s "|")] H (by simp; lia)
    have i1 := fun H => len_L ((barW b).map wordD ++ (k.words.map wordD ++ [wordD (.s "|")])) H (by simp; lia)
    have i3 := fun H => b_addL ((barW b).map wordD ++ (k.words.map wordD ++ [wordD (.s "|")])) (k2.words.map wordD) H (by simp; lia)
    have i5 := fun x y H => b_addL [x] [y] H (by simp)
    have i6 := fun x y H => b_tuple [x, y] H (by simp)
    simp [wordD, Wd.text, lb] at h5 h8 i1 i3 i5 i6
    simp [-BEq.rfl, f97, e1, e2, e3, e4, ec, b_intB, b_mulBar, forV_r2, bodyD, h3, h5, h6, h8, i1, i3, i5, i6, PT.words, PT.tree, PT.a, ix, hA, hB, wordD, Wd.text]
    congr 1 <;> lia
end
end Mine.P
end
section
namespace Mine.P
open PySem
noncomputable section
noncomputable def sepW (c : Nat) : List Wd := if c = 0 then [] else if c = 1 then [.s ","] else [.s "c", .s ","]
noncomputable def lackD : Option Nat → D
  | none => .none
  | some k => .int k
noncomputable def locW (p : Nat) (ws : List Wd) (ts : List D) (b : Bool) (lack : Option Nat) (many : Nat) (E : Loc) : Loc :=
  (79, .loc 0) :: (21, .d (.int p)) :: (36, .d (.list (ws.map wordD))) :: (100, .d (.list ts)) :: (105, .d (.bool b)) :: (106, .d (lackD lack)) :: (99, .d (.int many)) :: E
noncomputable def EOk (E : Loc) : Prop := E = [] ∨ ∃ a b c, E = [(101, a), (102, b), (103, c)]
noncomputable def ks104 : Ks := [(79, .local), (21, .local), (36, .local), (100, .local), (105, .local), (106, .local), (99, .local), (101, .local), (102, .local), (103, .local), (82, .globalImplicit), (8, .globalImplicit), (97, .globalImplicit), (0, .globalImplicit), (78, .globalImplicit)]
noncomputable def body104 : List St := [.asgT [102, 103] false (.call 97 [.nm 79, .bin .Add (.nm 21) (.call 0 [.nm 36])]), .asgTT [36, 100, 105] true [.bin .Add (.nm 36) (.nm 102), .bin .Add (.nm 100) (.list false [.nm 103]), .bool false], .ifS (.bop true [.cmp .Lt (.bin .Add (.nm 101) (.int 1)) (.nm 99), .cmp .Is (.nm 106) (.none), .cmp .Eq (.call 78 [.nm 79, .int 6]) (.int 0)]) [.asg 36 (.bin .Add (.nm 36) (.list false [.str (Str.ofString "c"), .str (Str.ofString ",")])), .asg 106 (.bin .Sub (.bin .Add (.nm 21) (.call 0 [.nm 36])) (.int 2))] [.ifS (.bop false [.cmp .Lt (.bin .Add (.nm 101) (.int 1)) (.nm 99), .cmp .Eq (.call 78 [.nm 79, .int 2]) (.int 0)]) [.asgTT [36, 105] true [.bin .Add (.nm 36) (.list false [.str (Str.ofString ",")]), .bool true]] []]]
theorem PT.len_le (x : PT) : x.words.length ≤ 8 := by
  obtain ⟨a, k, o⟩ := x
  have := k.len_le
  induction o with
  | none => induction a <;> simp [PT.words] <;> lia
  | some k2 => have := k2.len_le; induction a <;> simp [PT.words] <;> lia
theorem row_pre (x : PT) (S S1 : O) (e1 : ∀ n T (p : Nat), callT (n + 26) 97 [.loc 0, .d (.int p)] (S :: T) = .ok (.d (.tup [.list (x.words.map wordD), x.tree ix p])) (S1 :: T))
    (i many n p : Nat) (T : Hp) (ws : List Wd) (ts : List D) (b : Bool) (E : Loc) (lack0 : Option Nat) (hE : EOk E) (hw : ws.length < 500) (ht : ts.length < 100) :
    bodyD (n + 30) ks104 101 body104 (.int i) (locW p ws ts b lack0 many E) (S :: T) =
      blk (n + 30) ks104 (body104.drop 2) (locW p (ws ++ x.words) (ts ++ [x.tree ix (p + ws.length)]) false lack0 many [(101, .d (.int i)), (102, .d (.list (x.words.map wordD))), (103, .d (x.tree ix (p + ws.length)))]) (S1 :: T) := by
  revert e1 hE hw ht; revert x S S1 i many n p T ws ts b E lack0
  refine @(eps13 (P := ?P) ((PT.mk false PK.wild none), do', do', dN, dN, dN, dN, dH, (default : List Mine.P.Wd), du, dB, dL, (default : Option Nat)) rfl ((?m : Pi13 ?P) _ _ _ _ _ _ _ _ _ _ _ _ _))
  intro x S S1 i many n p T ws ts b E lack0 e1 hE hw ht
  have lx := x.len_le
  have h1 := fun H => len_L (ws.map wordD) H (by simp; lia)
  have h2 := fun H => b_addL (ws.map wordD) (x.words.map wordD) H (by simp; lia)
  have h3 := fun H => b_addL ts [x.tree ix (p + ws.length)] H (by simp; lia)
  have e1' := fun n T => e1 n T (p + ws.length)
  simp at h1 e1'
  unfold bodyD
  refine blk_cut 2 _ _ _ _ _ _ _ ?_
  rcases hE with rfl | ⟨a, b, c, rfl⟩
  · simp [-BEq.rfl, body104, ks104, locW, e1', h1, h2, h3]
  · simp [-BEq.rfl, body104, ks104, locW, e1', h1, h2, h3]
theorem row_step (S : O) (hS : Src S) (i many : Nat) (lk : Bool) : ∃ (x : PT) (S' : O) (c : Nat), x.okay ∧ Src S' ∧ c ≤ 2 ∧ (c = 2 → i + 1 < many ∧ lk = false) ∧ (c = 0 → ¬ i + 1 < many) ∧
    ∀ n T (p : Nat) (ws : List Wd) (ts : List D) (b : Bool) (E : Loc) (lack0 : Option Nat), lack0.isSome = lk → EOk E → ws.length < 500 → ts.length < 100 →
      ∃ E', EOk E' ∧ bodyD (n + 30) ks104 101 body104 (.int i) (locW p ws ts b lack0 many E) (S :: T) =
        .ok (.next, locW p (ws ++ (x.words ++ sepW c)) (ts ++ [x.tree ix (p + ws.length)]) (decide (c = 1)) (if c = 2 then some (p + ws.length + x.words.length) else lack0) many E') (S' :: T) := by
  revert hS; revert S i many lk
  refine @(eps4 (P := ?P) (do', dN, dN, dB) rfl ((?m : Pi4 ?P) _ _ _ _))
  intro S i many lk hS
  obtain ⟨x, S1, hx, hS1, e1⟩ := pattern_gen S hS
  have lx := x.len_le
  have pre := row_pre x S S1 e1 i many
  by_cases hi : i + 1 < many
  · have hi' : ((i : Int) + 1 < many) := by lia
    induction lk with
    | false =>
      obtain ⟨r, S2, hr, hS2, e2⟩ := draw S1 hS1 6 (by decide) (by decide)
      refine ⟨x, S2, if r = 0 then 2 else 1, hx, hS2, by split <;> lia, fun _ => ⟨hi, rfl⟩, by split <;> simp, fun n T p ws ts b E lack0 hk hE hw ht => ?_⟩
      obtain rfl : lack0 = none := by induction lack0 <;> simp at hk ⊢
      refine ⟨[(101, .d (.int i)), (102, .d (.list (x.words.map wordD))), (103, .d (x.tree ix (p + ws.length)))], Or.inr ⟨_, _, _, rfl⟩, ?_⟩
      rw [pre n p T ws ts b E none hE hw ht]
      have h4 := fun H => b_addL ((ws ++ x.words).map wordD) [wordD (.s "c"), wordD (.s ",")] H (by simp; lia)
      have h5 := fun H => b_addL ((ws ++ x.words).map wordD) [wordD (.s ",")] H (by simp; lia)
      have h6 := fun H => len_L ((ws ++ x.words).map wordD ++ [wordD (.s "c"), wordD (.s ",")]) H (by simp; lia)
      simp [wordD, Wd.text] at h4 h5 h6
      by_cases hr0 : r = 0
      · subst hr0
        simp at e2
        simp [-BEq.rfl, body104, ks104, locW, lackD, e2, h4, h6, hi', sepW, wordD, Wd.text]
        lia
      · have hr1 : ¬ ((r : Int) = 0) := by lia
        simp [-BEq.rfl, body104, ks104, locW, lackD, e2, h5, hi', hr0, hr1, sepW, wordD, Wd.text]
    | true =>
      refine ⟨x, S1, 1, hx, hS1, by lia, by lia, by lia, fun n T p ws ts b E lack0 hk hE hw ht => ?_⟩
      obtain ⟨k0, rfl⟩ : ∃ k, lack0 = some k := by induction lack0 <;> simp at hk ⊢
      refine ⟨[(101, .d (.int i)), (102, .d (.list (x.words.map wordD))), (103, .d (x.tree ix (p + ws.length)))], Or.inr ⟨_, _, _, rfl⟩, ?_⟩
      rw [pre n p T ws ts b E (some k0) hE hw ht]
      have h5 := fun H => b_addL ((ws ++ x.words).map wordD) [wordD (.s ",")] H (by simp; lia)
      simp [wordD, Wd.text] at h5
      simp [-BEq.rfl, body104, ks104, locW, lackD, h5, hi', sepW, wordD, Wd.text]
  · have hi' : ¬ ((i : Int) + 1 < many) := by lia
    obtain ⟨r, S2, hr, hS2, e2⟩ := draw S1 hS1 2 (by decide) (by decide)
    refine ⟨x, S2, if r = 0 then 1 else 0, hx, hS2, by split <;> lia, by split <;> simp, by split <;> simp [hi], fun n T p ws ts b E lack0 hk hE hw ht => ?_⟩
    refine ⟨[(101, .d (.int i)), (102, .d (.list (x.words.map wordD))), (103, .d (x.tree ix (p + ws.length)))], Or.inr ⟨_, _, _, rfl⟩, ?_⟩
    rw [pre n p T ws ts b E lack0 hE hw ht]
    have h5 := fun H => b_addL ((ws ++ x.words).map wordD) [wordD (.s ",")] H (by simp; lia)
    simp [wordD, Wd.text] at h5
    by_cases hr0 : r = 0
    · subst hr0
      simp at e2
      simp [-BEq.rfl, body104, ks104, locW, e2, h5, hi', sepW, wordD, Wd.text]
    · have hr1 : ¬ ((r : Int) = 0) := by lia
      simp [-BEq.rfl, body104, ks104, locW, e2, hi', hr0, hr1, sepW]
end
end Mine.P
end
section
namespace Mine.P
open PySem
noncomputable section
noncomputable abbrev Its := List (PT × Nat)
noncomputable def itW : Its → List Wd
  | [] => []
  | x :: r => x.1.words ++ sepW x.2 ++ itW r
noncomputable def itT (sp : Nat → Int) : Nat → Its → List D
  | _, [] => []
  | q, x :: r => x.1.tree sp q :: itT sp (q + (x.1.words ++ sepW x.2).length) r
noncomputable def lackOf : Nat → Its → Option Nat → Option Nat
  | _, [], l => l
  | q, x :: r, l => lackOf (q + (x.1.words ++ sepW x.2).length) r (if x.2 = 2 then some (q + x.1.words.length) else l)
noncomputable def lastOf : Bool → Its → Bool
  | b, [] => b
  | _, x :: r => lastOf (decide (x.2 = 1)) r
noncomputable def Seps : Bool → Its → Prop
  | _, [] => True
  | lk, x :: r => x.1.okay ∧ x.2 ≤ 2 ∧ (x.2 = 2 → r ≠ [] ∧ lk = false) ∧ (x.2 = 0 → r = []) ∧ Seps (lk || x.2 == 2) r
theorem sepW_len (c : Nat) : (sepW c).length ≤ 2 := by
  unfold sepW
  split
  · simp
  · split <;> simp
theorem itW_len (xs : Its) : (itW xs).length ≤ 10 * xs.length := by
  induction xs with
  | nil => simp [itW]
  | cons x r ih =>
    have := x.1.len_le
    have := sepW_len x.2
    simp [itW]; lia
theorem itT_len (sp : Nat → Int) (xs : Its) : ∀ q, (itT sp q xs).length = xs.length := by
  induction xs with
  | nil => intro q; rfl
  | cons x r ih => intro q; simp [itT, ih]
theorem row_loop (many : Nat) : ∀ (m i : Nat) (lk : Bool) (S : O), Src S → i + m = many → ∃ (xs : Its) (S' : O), xs.length = m ∧ Seps lk xs ∧ Src S' ∧
    ∀ n T (p : Nat) (ws : List Wd) (ts : List D) (b : Bool) (E : Loc) (lack0 : Option Nat), lack0.isSome = lk → EOk E → ws.length + 10 * m < 500 → ts.length + m < 100 →
      ∃ E', EOk E' ∧ forD (bodyD (n + 30) ks104 101 body104) ((List.range' i m).map fun i : Nat => .int (i : Int)) (locW p ws ts b lack0 many E) (S :: T) =
        .ok (.next, locW p (ws ++ itW xs) (ts ++ itT ix (p + ws.length) xs) (lastOf b xs) (lackOf (p + ws.length) xs lack0) many E') (S' :: T) := by
  intro m
  induction m with
  | zero =>
    intro i lk S hS hm
    exact ⟨[], S, rfl, trivial, hS, fun n T p ws ts b E lack0 _ hE _ _ => ⟨E, hE, by simp [itW, itT, lastOf, lackOf]⟩⟩
  | succ m ih =>
    intro i lk S hS hm
    obtain ⟨x, S1, c, hx, hS1, hc, hc2, hc0, h⟩ := row_step S hS i many lk
    obtain ⟨xs, S2, hxs, hsep, hS2, h2⟩ := ih (i + 1) (lk || c == 2) S1 hS1 (by lia)
    have lx := x.len_le
    have ls := sepW_len c
    refine ⟨(x, c) :: xs, S2, by simp [hxs], ⟨hx, hc, fun e => ⟨?_, (hc2 e).2⟩, fun e => ?_, hsep⟩, hS2, fun n T p ws ts b E lack0 hk hE hw ht => ?_⟩
    · have := (hc2 e).1
      intro e2
      subst e2
      simp at hxs
      lia
    · have := hc0 e
      exact List.eq_nil_of_length_eq_zero (by lia)
    · obtain ⟨E1, hE1, e1⟩ := h n T p ws ts b E lack0 hk hE (by lia) (by lia)
      obtain ⟨E2, hE2, e2⟩ := h2 n T p (ws ++ (x.words ++ sepW c)) (ts ++ [x.tree ix (p + ws.length)]) (decide (c = 1)) E1 (if c = 2 then some (p + ws.length + x.words.length) else lack0)
        (by by_cases hh : c = 2 <;> simp [hh, hk]) hE1 (by simp; lia) (by simp; lia)
      refine ⟨E2, hE2, ?_⟩
      rw [show List.range' i (m + 1) = i :: List.range' (i + 1) m from rfl, List.map_cons, forD_cons, e1, bind_ok, forS_next, e2]
      simp [itW, itT, lastOf, lackOf, Nat.add_assoc]
theorem row_gen (S : O) (hS : Src S) : ∃ (xs : Its) (S' : O), xs.length ≤ 3 ∧ Seps false xs ∧ Src S' ∧ ∀ n T (p : Nat),
    callT (n + 32) 104 [.loc 0, .d (.int p)] (S :: T) =
      .ok (.d (.tup [.list ((.s "(" :: (itW xs ++ [.s ")"])).map wordD), .list (itT ix (p + 1) xs), .bool (lastOf false xs), lackD (lackOf (p + 1) xs none)])) (S' :: T) := by
  obtain ⟨m, S1, hm, hS1, e1⟩ := one S hS [.int 0, .int 1, .int 1, .int 2, .int 3] (by decide) (by decide)
  obtain ⟨many, rfl, hmany⟩ : ∃ k : Nat, m = .int k ∧ k ≤ 3 := by
    simp at hm
    rcases hm with rfl | rfl | rfl | rfl
    · exact ⟨0, rfl, by lia⟩
    · exact ⟨1, rfl, by lia⟩
    · exact ⟨2, rfl, by lia⟩
    · exact ⟨3, rfl, by lia⟩
  obtain ⟨xs, S2, hxs, hsep, hS2, h⟩ := row_loop many many 0 false S1 hS1 (by lia)
  refine ⟨xs, S2, by lia, hsep, hS2, fun n T p => ?_⟩
  obtain ⟨E, hE, e⟩ := h n T p [.s "("] [] false [] none rfl (Or.inl rfl) (by simp; lia) (by simp; lia)
  have lw := itW_len xs
  rw [← List.range_eq_range'] at e
  have h1 := fun H => b_range many H (by lia)
  have h2 := fun loc H => forV_rng (n + 30) ks104 101 body104 loc many H (by lia)
  have h3 := fun H => b_addL ((.s "(" :: itW xs).map wordD) [wordD (.s ")")] H (by simp; lia)
  simp [ks104, body104, locW, lackD, wordD, Wd.text] at e h2 h3
  rw [cf _ _ _ _ f104 (by rfl) _ (by rfl)]
  simp [-BEq.rfl, f104, e1, h1, h2, e, h3, lackD, wordD, Wd.text]
end
end Mine.P
end
section
namespace Mine.P
open PySem
noncomputable section
theorem compL_map (src : V) (l l' : List D) (f : D → Hp → R (Option D)) (H0 : Hp)
    (hs : ∀ acc i, nextItem (H0 ++ [.list acc]) src i = some l[i]?) (hll : l.length = l'.length)
    (hf : ∀ (i : Nat) (x y : D), l[i]? = some x → l'[i]? = some y → ∀ acc, f x (H0 ++ [.list acc]) = .ok (some y) (H0 ++ [.list acc])) :
    ∀ (m k i : Nat) (acc : List D), l.length = i + m → m < k → acc.length + m < 16000 →
      compL src f H0.length k i (H0 ++ [.list acc]) = .ok () (H0 ++ [.list (acc ++ l'.drop i)]) := by
  intro m
  induction m with
  | zero =>
    intro k i acc hl hk ha
    obtain ⟨k', rfl⟩ : ∃ k', k = k' + 1 := ⟨k - 1, by lia⟩
    have e : l'.drop i = [] := List.drop_eq_nil_of_le (by lia)
    rw [e, compL, hs, List.getElem?_eq_none (by lia)]
    simp
  | succ m ih =>
    intro k i acc hl hk ha
    obtain ⟨k', rfl⟩ : ∃ k', k = k' + 1 := ⟨k - 1, by lia⟩
    have hi : i < l.length := by lia
    have hi' : i < l'.length := by lia
    rw [List.drop_eq_getElem_cons hi', compL, hs, List.getElem?_eq_getElem hi]
    show R.bnd _ (f l[i] (H0 ++ [.list acc])) = _
    rw [hf i _ _ (List.getElem?_eq_getElem hi) (List.getElem?_eq_getElem hi'), bind_ok]
    have e1 : (H0 ++ [O.list acc])[H0.length]? = some (.list acc) := by rw [List.getElem?_append_right (Nat.le_refl _), Nat.sub_self]; rfl
    have e2 : (H0 ++ [O.list acc]).set H0.length (.list (acc ++ [l'[i]])) = H0 ++ [.list (acc ++ [l'[i]])] := by
      rw [List.set_append_right _ _ (Nat.le_refl _), Nat.sub_self]; rfl
    simp only [e1, e2, decide_eq_true (show acc.length < 16000 by lia), guard_tt]
    rw [ih k' (i + 1) (acc ++ [l'[i]]) (by lia) (by lia) (by simp; lia)]
    simp
theorem compV_map (n : Nat) (cks : Ks) (loc : Loc) (elt : Ex) (tg : Tg) (conds : List Ex) (src : V) (H : Hp) (l l' : List D)
    (hs : ∀ acc i, nextItem (H ++ [.list acc]) src i = some l[i]?) (hl : l.length < 1000) (hll : l.length = l'.length)
    (hf : ∀ (i : Nat) (x y : D), l[i]? = some x → l'[i]? = some y → ∀ acc, compF n cks loc elt tg conds x (H ++ [.list acc]) = .ok (some y) (H ++ [.list acc])) :
    compV n cks loc elt tg conds src H = .ok (.d (.list l')) H := by
  unfold compV
  rw [compL_map src l l' _ H hs hll hf l.length LK 0 [] (by lia) (by unfold LK; lia) (by simp; lia)]
  have e1 : (H ++ [O.list (([] : List D) ++ l'.drop 0)])[H.length]? = some (.list l') := by
    rw [List.getElem?_append_right (Nat.le_refl _), Nat.sub_self]; rfl
  show compEnd H.length _ = _
  unfold compEnd
  rw [e1]
  have e2 : decide ((H ++ [O.list (([] : List D) ++ l'.drop 0)]).length = H.length + 1) = true := by simp
  simp only [e2, guard_tt, List.take_left]
noncomputable def spotsD (sp : Nat → Int) (N : Nat) : D := .list ((List.range (N + 1)).map fun i => .int (sp i))
theorem idx_sp (sp : Nat → Int) (N i : Nat) (H : Hp) (hi : i ≤ N) (hN : N < 900) : idxC (.d (spotsD sp N)) (.d (.int (ix i))) H = .ok (.d (.int (sp i))) H :=
  idx_L _ i _ H (by simp [List.getElem?_range (show i < N + 1 by lia)]) (by simp; lia)
theorem b_addT (x y : List D) (H : Hp) (h : x.length + y.length < 10000) : binC .Add (.d (.tup x)) (.d (.tup y)) H = .ok (.d (.tup (x ++ y))) H := by
  simp only [binC_eq, idxC_eq, bltnC_eq, slC_eq, strC_eq]
  have e2 : decide (x.length + y.length ≤ line) = true := by
    unfold line
    simp only [decide_eq_true_eq]; lia
  show R.guard (decide (x.length + y.length ≤ line)) _ = _
  rw [e2]; rfl
theorem sl2 (a b : D) (l : List D) (H : Hp) (h : l.length < 900) : slC (.d (.tup (a :: b :: l))) (.d (.int 2)) H = .ok (.d (.tup l)) H := by
  simp only [binC_eq, idxC_eq, bltnC_eq, slC_eq, strC_eq]
  show R.guard (decide ((0 : Int) < 2) && decide ((2 : Int) ≤ ((a :: b :: l).length : Nat)) && decide ((a :: b :: l).length ≤ 1000)) _ = _
  rw [decide_eq_true (by decide), decide_eq_true (by simp; lia), decide_eq_true (by simp; lia)]
  rfl
noncomputable def PK.tl : PK → List D
  | .wild => []
  | .lit k => [.int k]
  | .neg k => [.int (0 - k)]
  | .bool b => [.bool b]
  | .rng k => [.int k, .int 900]
  | .nam b => [sg (namT b), .bool false, .bool false, .none]
theorem PK.tree2 (k : PK) (s : Int) : k.tree s = .tup (sg k.tag :: .int s :: k.tl) := by induction k <;> rfl
theorem PK.tag_ne (k : PK) : k.tag ≠ "or" := by induction k <;> simp [PK.tag]
theorem PK.tl_len (k : PK) : k.tl.length < 5 := by induction k <;> simp [PK.tl]
section
variable (sp : Nat → Int) (N : Nat) (hN : N < 900)
include hN
theorem spot_pk (k : PK) (i : Nat) (hi : i ≤ N) (n : Nat) (H : Hp) :
    callT (n + 8) 107 [.d (k.tree (ix i)), .d (spotsD sp N)] H = .ok (.d (k.tree (sp i))) H := by
  have e := fun H => idx_sp sp N i H hi hN
  have e1 := fun H => sl2 (sg k.tag) (.int (ix i)) k.tl H (by have := k.tl_len; lia)
  have e2 := fun H => b_addT [sg k.tag, .int (sp i)] k.tl H (by have := k.tl_len; simp; lia)
  rw [cf _ _ _ _ f107 (by rfl) _ (by rfl), PK.tree2, PK.tree2]
  simp [-BEq.rfl, f107, e, e1, e2, k.tag_ne]
theorem spot_pt (x : PT) (q : Nat) (hi : q + x.words.length ≤ N) (n : Nat) (H : Hp) :
    callT (n + 16) 107 [.d (x.tree ix q), .d (spotsD sp N)] H = .ok (.d (x.tree sp q)) H := by
  obtain ⟨a, k, o⟩ := x
  induction o with
  | none =>
    simp only [PT.tree]
    exact spot_pk sp N hN k _ (by induction a <;> simp [PT.a, PT.words] at hi ⊢ <;> lia) (n + 8) H
  | some k2 =>
    have i0 : q ≤ N := by lia
    have i1 : q + PT.a ⟨a, k, some k2⟩ ≤ N := by induction a <;> simp [PT.a, PT.words] at hi ⊢ <;> lia
    have i2 : q + PT.a ⟨a, k, some k2⟩ + k.words.length + 1 ≤ N := by induction a <;> simp [PT.a, PT.words] at hi ⊢ <;> lia
    have e := fun H => idx_sp sp N q H i0 hN
    have s1 := fun n H => spot_pk sp N hN k _ i1 n H
    have s2 := fun n H => spot_pk sp N hN k2 _ i2 n H
    simp only [PT.tree]
    generalize q + PT.a ⟨a, k, some k2⟩ = u at *
    generalize hv : u + k.words.length + 1 = v at *
    have ec : ∀ n loc H, freeOf [(41, .local), (87, .local), (107, .globalImplicit), (93, .free)] loc = [(93, .d (spotsD sp N))] →
        compV (n + 10) [(41, .local), (87, .local), (107, .globalImplicit), (93, .free)] loc (.call 107 [.nm 87, .nm 93]) (.one 87) [] (.d (.tup [k.tree (ix u), k2.tree (ix v)])) H =
          .ok (.d (.list [k.tree (sp u), k2.tree (sp v)])) H := by
      intro n loc H hfree
      refine compV_map _ _ _ _ _ _ _ _ [k.tree (ix u), k2.tree (ix v)] _ (fun _ _ => rfl) (by simp) rfl ?_
      intro i x y hx hy acc
      match i, hx, hy with
      | 0, hx, hy =>
        simp at hx hy; subst hx; subst hy
        simp [-BEq.rfl, compF, compC, tgVals, tgNames, hfree, s1]
      | 1, hx, hy =>
        simp at hx hy; subst hx; subst hy
        simp [-BEq.rfl, compF, compC, tgVals, tgNames, hfree, s2]
      | i + 2, hx, hy => simp at hx
    have e6 := fun x y H => b_tuple [x, y] H (by simp)
    rw [cf _ _ _ _ f107 (by rfl) _ (by rfl)]
    simp [-BEq.rfl, f107, e, e_comp, ec, e6, compOk, freeOf]
theorem spot_its (xs : Its) : ∀ (q i : Nat) (x y : D), q + (itW xs).length ≤ N → (itT ix q xs)[i]? = some x → (itT sp q xs)[i]? = some y →
    ∀ n H, callT (n + 16) 107 [.d x, .d (spotsD sp N)] H = .ok (.d y) H := by
  induction xs with
  | nil => intro q i x y _ hx; simp [itT] at hx
  | cons z r ih =>
    intro q i x y hq hx hy
    simp [itW] at hq
    cases i with
    | zero =>
      simp [itT] at hx hy
      subst hx; subst hy
      exact fun n H => spot_pt sp N hN z.1 q (by lia) n H
    | succ i =>
      simp only [itT, List.getElem?_cons_succ] at hx hy
      exact ih _ i x y (by simp; lia) hx hy
theorem spot_comp (a : Nat) (ha : a = 87 ∨ a = 103) (xs : Its) (q : Nat) (h : q + (itW xs).length ≤ N) (hx : xs.length < 900) (n : Nat) (loc : Loc) (H : Hp)
    (hfree : freeOf [(41, .local), (a, .local), (107, .globalImplicit), (93, .free)] loc = [(93, .d (spotsD sp N))]) :
    compV (n + 18) [(41, .local), (a, .local), (107, .globalImplicit), (93, .free)] loc (.call 107 [.nm a, .nm 93]) (.one a) [] (.d (.list (itT ix q xs))) H =
      .ok (.d (.list (itT sp q xs))) H := by
  refine compV_map _ _ _ _ _ _ _ _ (itT ix q xs) _ (fun _ _ => rfl) (by rw [itT_len]; lia) (by rw [itT_len, itT_len]) ?_
  intro i x y hx hy acc
  have e := spot_its sp N hN xs q i x y h hx hy
  rcases ha with rfl | rfl
  · simp [-BEq.rfl, compF, compC, tgVals, tgNames, hfree, e]
  · simp [-BEq.rfl, compF, compC, tgVals, tgNames, hfree, e]
end
end
end Mine.P
end
section
namespace Mine.P
open PySem
noncomputable section
noncomputable def mk (l : List Nat) : Str := ⟨l.toArray⟩
noncomputable def wc (w : Wd) : List Nat := w.text.toList.map Char.toNat
theorem ofS_mk (x : String) : Str.ofString x = mk (x.toList.map Char.toNat) := Str.ofString_eq_toList x
theorem mk_app (a b : List Nat) : mk a ++ mk b = mk (a ++ b) := by
  apply Str.ext'
  show a.toArray ++ b.toArray = (a ++ b).toArray
  simp
theorem mk_len (l : List Nat) : (mk l).length = l.length := by simp [mk, Str.length]
theorem mk_list (l : List Nat) : (mk l).cps.toList = l := by simp [mk]
theorem mk_inj (a b : List Nat) : (mk a = mk b) = (a = b) := by
  apply propext
  constructor
  · intro h
    have := congrArg (fun x : Str => x.cps.toList) h
    simpa [mk_list] using this
  · intro h; rw [h]
theorem mk_of (s : Str) : mk s.cps.toList = s := by
  apply Str.ext'
  simp [mk]
noncomputable def joinL (c : Nat) : List (List Nat) → List Nat
  | [] => []
  | [a] => a
  | a :: b :: r => a ++ c :: joinL c (b :: r)
theorem joinL_of (c : Nat) : ∀ S : List Str, (Str.join ⟨#[c]⟩ S).cps.toList = joinL c (S.map fun s => s.cps.toList)
  | [] => rfl
  | [a] => rfl
  | a :: b :: r => by
    have ih := joinL_of c (b :: r)
    show ((a ++ (⟨#[c]⟩ : Str) ++ Str.join ⟨#[c]⟩ (b :: r))).cps.toList = a.cps.toList ++ c :: joinL c ((b :: r).map fun s => s.cps.toList)
    rw [← ih]
    simp [Str.cps_append]
theorem app_uniq (c : Nat) : ∀ (a b X Y : List Nat), c ∉ a → c ∉ b → a ++ c :: X = b ++ c :: Y → a = b ∧ X = Y
  | [], [], X, Y, _, _, h => by simpa using h
  | [], y :: b, X, Y, _, hb, h => by
    simp at h hb
    exact absurd h.1 hb.1
  | x :: a, [], X, Y, ha, _, h => by
    simp at h ha
    exact absurd h.1.symm ha.1
  | x :: a, y :: b, X, Y, ha, hb, h => by
    simp at h ha hb
    obtain ⟨e1, e2⟩ := app_uniq c a b X Y ha.2 hb.2 h.2
    exact ⟨by rw [h.1, e1], e2⟩
theorem joinL_uniq (c : Nat) : ∀ (A B : List (List Nat)), A ≠ [] → B ≠ [] → (∀ p ∈ A, c ∉ p) → (∀ p ∈ B, c ∉ p) → joinL c A = joinL c B → A = B
  | [], _, h, _, _, _, _ => absurd rfl h
  | _, [], _, h, _, _, _ => absurd rfl h
  | [a], [b], _, _, _, _, h => by
    simp [joinL] at h
    rw [h]
  | [a], b :: b' :: r, _, _, ha, _, h => by
    simp [joinL] at h
    exact absurd (by rw [h]; simp) (ha a (by simp))
  | a :: a' :: r, [b], _, _, _, hb, h => by
    simp [joinL] at h
    exact absurd (by rw [← h]; simp) (hb b (by simp))
  | a :: a' :: r, b :: b' :: r', _, _, ha, hb, h => by
    simp only [joinL] at h
    obtain ⟨e1, e2⟩ := app_uniq c a b _ _ (ha a (by simp)) (hb b (by simp)) h
    have ih := joinL_uniq c (a' :: r) (b' :: r') (by simp) (by simp) (fun p hp => ha p (List.mem_cons_of_mem _ hp)) (fun p hp => hb p (List.mem_cons_of_mem _ hp)) e2
    rw [e1, ih]
theorem split_mk (c : Nat) (parts : List (List Nat)) (hne : parts ≠ []) (hf : ∀ p ∈ parts, c ∉ p) : Txt.split (mk (joinL c parts)) ⟨#[c]⟩ = parts.map mk := by
  have h1 := StrLaws.join_split (mk (joinL c parts)) ⟨#[c]⟩
  have h2 := StrLaws.split_free (mk (joinL c parts)) c
  have h3 := PyProof.Rows.split_pos (mk (joinL c parts)) ⟨#[c]⟩
  generalize Txt.split (mk (joinL c parts)) ⟨#[c]⟩ = S at h1 h2 h3
  have h4 := joinL_of c S
  rw [h1, mk_list] at h4
  have h5 := joinL_uniq c (S.map fun s => s.cps.toList) parts (by intro e; simp at e; subst e; simp at h3) hne
    (fun p hp => by
      simp at hp
      obtain ⟨s, hs, rfl⟩ := hp
      simpa using h2 s hs) hf h4.symm
  rw [← h5, List.map_map]
  conv => lhs; rw [← List.map_id S]
  apply List.map_congr_left
  intro s hs
  exact (mk_of s).symm
noncomputable def digs : List Nat := [48, 49, 50, 51, 52, 53, 54, 55, 56, 57]
theorem digs_s : (Str.ofString "0123456789").cps.toList = digs := by decide
noncomputable def one1 (c : Nat) : D := .str ⟨#[c]⟩
theorem strs_ones (l : List Nat) : strsOf (l.map one1) = some (l.map fun c => (⟨#[c]⟩ : Str)) := by
  induction l with
  | nil => rfl
  | cons c r ih => simp [strsOf, one1]; simpa [one1] using ih
theorem join_ones (l : List Nat) : Str.join (Str.ofString "") (l.map fun c => (⟨#[c]⟩ : Str)) = mk l := by
  have e0 : Str.ofString "" = mk [] := by rw [ofS_mk]; rfl
  rw [e0]
  induction l with
  | nil => rfl
  | cons c r ih =>
    cases r with
    | nil => rfl
    | cons c2 r =>
      show (⟨#[c]⟩ : Str) ++ mk [] ++ Str.join (mk []) ((c2 :: r).map fun c => (⟨#[c]⟩ : Str)) = _
      rw [ih]
      show mk [c] ++ mk [] ++ mk (c2 :: r) = _
      rw [mk_app, mk_app]; rfl
theorem joinOk_ones (l : List Nat) (h : l.length < 1000) : JoinOk (Str.ofString "") (l.map fun c => (⟨#[c]⟩ : Str)) = true := by
  unfold JoinOk
  rw [StrLaws.joinTotal]
  have e0 : (Str.ofString "").length = 0 := by rw [len_of]; rfl
  have e1 : ((l.map fun c => (⟨#[c]⟩ : Str)).map fun s => s.length).sum = l.length := by
    clear h
    induction l with
    | nil => rfl
    | cons c r ih => simp [Str.length] at ih ⊢; lia
  rw [e0, e1]
  simp [Builtin.Str.tooLong, sizeLine]
  lia
theorem meth_join (l : List Nat) (H : Hp) (h : l.length < 1000) : strC 12 (Str.ofString "") [.d (.list (l.map one1))] H = .ok (.d (.str (mk l))) H := by
  simp only [binC_eq, idxC_eq, bltnC_eq, slC_eq, strC_eq]
  show (R.opt (strsOf (l.map one1)) fun ss => R.guard (JoinOk (Str.ofString "") ss) (retS (Txt.join (Str.ofString "") ss) H)) = _
  rw [strs_ones]
  show R.guard (JoinOk (Str.ofString "") _) (retS (Txt.join (Str.ofString "") _) H) = _
  rw [joinOk_ones l h]
  show retS (Builtin.Str.glued (Str.ofString "") _) H = _
  rw [StrLaws.glued_eq_join, join_ones]
  rfl
theorem next_str (l : List Nat) (h : ∀ c ∈ l, c < 128) (H : Hp) (i : Nat) : nextItem H (.d (.str (mk l))) i = some ((l.map one1)[i]?) := by
  show (if (mk l).cps.all (· < 128) then some ((mk l).cps[i]?.map fun c => D.str ⟨#[c]⟩) else Option.none) = _
  rw [if_pos (by simpa [mk] using h)]
  simp [mk]
  rfl
@[simp] theorem c_inS (c : Nat) (y : Str) (H : Hp) : cmpV .In (.d (one1 c)) (.d (.str y)) H = some (y.cps.toList.contains c) := rfl
noncomputable def gdig (x : D) : Option D := match x with
  | .str s => if s.cps.toList.all digs.contains then some x else none
  | _ => none
theorem gdig_one (c : Nat) : gdig (one1 c) = if digs.contains c then some (one1 c) else none := by
  show (if [c].all digs.contains then some (one1 c) else none) = _
  simp
theorem figs (n : Nat) (l : List Nat) (h : ∀ c ∈ l, c < 128) (hl : l.length < 900) (loc : Loc) (H : Hp) (hf : freeOf [(41, .local), (55, .local)] loc = []) :
    compV (n + 3) [(41, .local), (55, .local)] loc (.nm 55) (.one 55) [.cmp .In (.nm 55) (.str (Str.ofString "0123456789"))] (.d (.str (mk l))) H = .ok (.d (.list ((l.filter digs.contains).map one1))) H := by
  have e := compV_ok (n + 3) [(41, .local), (55, .local)] loc (.nm 55) (.one 55) [.cmp .In (.nm 55) (.str (Str.ofString "0123456789"))] (.d (.str (mk l))) H (l.map one1)
    gdig (fun acc i => next_str l h _ i) (by simpa using (by lia : l.length < 1000))
    (fun x hx acc => by
      simp at hx
      obtain ⟨c, hc, rfl⟩ := hx
      rw [gdig_one]
      simp only [-BEq.rfl, compF, tgVals, tgNames, hf]
      by_cases hh : c ∈ digs <;> simp [-BEq.rfl, compC, digs_s, hh])
  rw [e]
  congr 3
  clear e h hl
  induction l with
  | nil => rfl
  | cons c r ih =>
    rw [List.map_cons, List.filterMap_cons, gdig_one, ih]
    by_cases hh : c ∈ digs <;> simp [hh]
end
end Mine.P
end
section
namespace Mine.P
open PySem
noncomputable section
theorem idx_s0 (c : Nat) (l : List Nat) (H : Hp) : idxC (.d (.str (mk (c :: l)))) (.d (.int 0)) H = .ok (.d (one1 c)) H := by simp only [binC_eq, idxC_eq, bltnC_eq, slC_eq, strC_eq]; rfl
theorem m_alpha (s : Str) (H : Hp) : strC 13 s [] H = .ok (.d (.bool (Txt.isalpha s))) H := by simp only [binC_eq, idxC_eq, bltnC_eq, slC_eq, strC_eq]; rfl
theorem b_intS (t : Str) (k : Int) (H : Hp) (h : PySem.intText? t = some k) (hl : t.length ≤ 640) : bltnC 3 [.d (.str t)] H = .ok (.d (.int k)) H := by
  simp only [binC_eq, idxC_eq, bltnC_eq, slC_eq, strC_eq]
  show (R.opt (PySem.intText? t) fun n => R.guard (decide (t.length ≤ 640)) (retI n H)) = _
  rw [h]
  show R.guard (decide (t.length ≤ 640)) _ = _
  rw [decide_eq_true hl]; rfl
theorem wordI (n : Nat) (c : Nat) (l : List Nat) (s k : Int) (H : Hp) (hc : c ∈ digs) (h : ∀ x ∈ c :: l, x < 128) (hl : (c :: l).length < 600) (hd : ∀ x ∈ c :: l, x ∈ digs) (hk : PySem.intText? (mk (c :: l)) = some k) :
    callT (n + 10) 84 [.d (.str (mk (c :: l))), .d (.int s)] H = .ok (.d (.tup [sg "int", .str (mk (c :: l)), .int s, .int k, .none])) H := by
  have e1 := fun n loc H hf => figs n (c :: l) h (by lia) loc H hf
  have e0 : (c :: l).filter digs.contains = c :: l := by
    rw [List.filter_eq_self]
    intro a ha
    simpa using hd a ha
  rw [e0] at e1
  have e2 := fun H => meth_join (c :: l) H (by lia)
  have e3 := fun H => b_intS (mk (c :: l)) k H hk (by rw [mk_len]; lia)
  rw [cf _ _ _ _ f84 (by rfl) _ (by rfl)]
  simp [-BEq.rfl, f84, idx_s0, digs_s, hc, e_comp, compOk, e1, freeOf, e2, e3, -List.map_cons, -map_c]
theorem wordU (n : Nat) (c : Nat) (l : List Nat) (s : Int) (H : Hp) (hc : c ∈ digs) (h : ∀ x ∈ c :: l, x < 128) (hl : (c :: l).length < 600) (hd : ∃ x ∈ c :: l, x ∉ digs) :
    callT (n + 10) 84 [.d (.str (mk (c :: l))), .d (.int s)] H = .ok (.d (.tup [sg "int", .str (mk (c :: l)), .int s, .int 7, sg "u8"])) H := by
  have e1 := fun n loc H hf => figs n (c :: l) h (by lia) loc H hf
  have e0 : (c :: l).filter digs.contains ≠ c :: l := by
    intro e
    rw [List.filter_eq_self] at e
    obtain ⟨x, hx, hx2⟩ := hd
    exact hx2 (by simpa using e x hx)
  have hl2 : ((c :: l).filter digs.contains).length < 1000 := Nat.lt_of_le_of_lt (List.length_filter_le _ _) (by lia)
  generalize (c :: l).filter digs.contains = m at *
  have e2 := fun H => meth_join m H hl2
  rw [cf _ _ _ _ f84 (by rfl) _ (by rfl)]
  simp [-BEq.rfl, f84, idx_s0, digs_s, hc, e_comp, compOk, e1, freeOf, e2, mk_inj, e0]
@[simp] theorem met_one (n m : Nat) (ks : Ks) (loc : Loc) (args : List Ex) (c : Nat) (H : Hp) : metV n ks loc m args (.d (one1 c)) H = R.guard (m == 12 || m == 13 || m == 14) ((lisE n ks loc args H).bnd (strC m ⟨#[c]⟩)) := (rfl)
@[simp] theorem c_eq1 (c : Nat) (b : Str) (H : Hp) : cmpV .Eq (.d (one1 c)) (.d (.str b)) H = some (decide ((⟨#[c]⟩ : Str) = b)) := rfl
theorem wordS (n : Nat) (c : Nat) (l : List Nat) (s : Int) (H : Hp) (hc : c ∉ digs) (a : Bool) (ha : (Txt.isalpha ⟨#[c]⟩ || decide ((⟨#[c]⟩ : Str) = Str.ofString "_")) = a) :
    callT (n + 10) 84 [.d (.str (mk (c :: l))), .d (.int s)] H = .ok (.d (.tup [sg (if a then "name" else "sign"), .str (mk (c :: l)), .int s, .none, .none])) H := by
  rw [cf _ _ _ _ f84 (by rfl) _ (by rfl)]
  subst ha
  cases h1 : Txt.isalpha ⟨#[c]⟩ <;> by_cases h2 : (⟨#[c]⟩ : Str) = Str.ofString "_" <;> simp [-BEq.rfl, f84, idx_s0, digs_s, hc, m_alpha, h1, h2]
noncomputable def okLit (x : String) : Bool := match x.toList.map Char.toNat with
  | [] => false
  | c :: l => !digs.contains c && ((Txt.isalpha ⟨#[c]⟩ || decide ((⟨#[c]⟩ : Str) = Str.ofString "_")) == decide (kind x = "name")) && decide ((c :: l).length ≤ 8) && !(c :: l).contains 32
noncomputable def WdOk : Wd → Prop
  | .n k => k < 1000
  | .u k => k < 1000
  | .s x => okLit x = true
theorem lits_ok : ∀ x ∈ ["_", "true", "false", "a", "b_", "b", "c", "mut", "P", "Q", "Self", "A", "x", "|", ",", ")", "(", "-", "..=", "&", "&&", "::", "{", "}", ":", "@", ".."], okLit x = true := by decide +kernel
end
end Mine.P
end
section
namespace Mine.P
open PySem
noncomputable section
theorem dig_of {ch : Char} (h : ch.isDigit = true) : ch.toNat ∈ digs := by
  have := PyProof.Rows.digit_range h
  have h2 : ch.toNat = 48 ∨ ch.toNat = 49 ∨ ch.toNat = 50 ∨ ch.toNat = 51 ∨ ch.toNat = 52 ∨ ch.toNat = 53 ∨ ch.toNat = 54 ∨ ch.toNat = 55 ∨ ch.toNat = 56 ∨ ch.toNat = 57 := by lia
  simp only [digs, List.mem_cons, List.not_mem_nil, or_false]
  exact h2
theorem num_cps (k : Nat) : ∀ x ∈ (Nat.repr k).toList.map Char.toNat, x ∈ digs := by
  intro x hx
  obtain ⟨ch, hch, rfl⟩ := List.mem_map.mp hx
  rw [Nat.toList_repr] at hch
  exact dig_of (Nat.isDigit_of_mem_toDigits (by decide) (by decide) hch)
theorem num_read (k : Nat) (h : k < 1000) : PySem.intText? (Str.ofString (Nat.repr k)) = some (k : Int) := PySem.W.KIN.num_reads (n := (k : Int)) (by lia) (by lia)
theorem num_len (k : Nat) (h : k < 1000) : (Nat.repr k).length ≤ 10 := by
  have := PySem.W.KT.len_num (n := (k : Int)) (by lia) (by lia)
  rw [← len_of]
  exact this
theorem num_cons (k : Nat) (h : k < 1000) : ∃ c l, (Nat.repr k).toList.map Char.toNat = c :: l := by
  cases e : (Nat.repr k).toList.map Char.toNat with
  | cons c l => exact ⟨c, l, rfl⟩
  | nil =>
    have := num_read k h
    rw [ofS_mk, e] at this
    exact absurd this (by rw [show PySem.intText? (mk []) = none by decide +kernel]; nofun)
theorem digs_lt : ∀ x ∈ digs, x < 128 := by decide
theorem wc_len (w : Wd) : (wc w).length = w.text.length := by simp [wc, String.length_toList]
theorem word_ok (w : Wd) (hw : WdOk w) (n : Nat) (s : Int) (H : Hp) : callT (n + 10) 84 [.d (wordD w), .d (.int s)] H = .ok (.d (w.tok s)) H := by
  unfold wordD
  cases w with
  | n k =>
    simp only [Wd.text, Wd.tok]
    obtain ⟨c, l, e⟩ := num_cons k hw
    have hd := num_cps k
    have hl := num_len k hw
    rw [← String.length_toList, ← List.length_map (f := Char.toNat), e] at hl
    rw [e] at hd
    have hr := num_read k hw
    rw [ofS_mk, e] at hr
    have h := wordI n c l s k H (hd c (by simp)) (fun x hx => digs_lt x (hd x hx)) (by lia) hd hr
    simp only [tkI, sg, ofS_mk (Nat.repr k), e]
    exact h
  | u k =>
    simp only [Wd.text, Wd.tok]
    obtain ⟨c, l, e⟩ := num_cons k hw
    have hd := num_cps k
    have hl := num_len k hw
    rw [← String.length_toList, ← List.length_map (f := Char.toNat), e] at hl
    rw [e] at hd
    have e2 : (Nat.repr k ++ "u8").toList.map Char.toNat = c :: (l ++ [117, 56]) := by
      rw [String.toList_append, List.map_append, e]; rfl
    have h := wordU n c (l ++ [117, 56]) s H (hd c (by simp)) (fun x hx => by
      have : x ∈ c :: l ∨ x = 117 ∨ x = 56 := by simpa [or_assoc] using hx
      rcases this with h | rfl | rfl
      · exact digs_lt x (hd x h)
      · decide
      · decide) (by simp at hl ⊢; lia) ⟨117, by simp, by decide⟩
    simp only [tkU, sg, ofS_mk (Nat.repr k ++ "u8"), e2]
    exact h
  | s x =>
    simp only [Wd.text, Wd.tok]
    have hw' : okLit x = true := hw
    unfold okLit at hw'
    cases e : x.toList.map Char.toNat with
    | nil => rw [e] at hw'; simp at hw'
    | cons c l =>
      rw [e] at hw'
      simp only [Bool.and_eq_true, Bool.not_eq_true', beq_iff_eq] at hw'
      have h := wordS n c l s H (by simpa using hw'.1.1.1) _ hw'.1.1.2
      have e3 : (if decide (kind x = "name") = true then "name" else "sign") = kind x := by
        unfold kind; split <;> simp_all
      rw [e3] at h
      simp only [sg, ofS_mk x, e] at h ⊢
      exact h
theorem wc_ok (w : Wd) (hw : WdOk w) : wc w ≠ [] ∧ 32 ∉ wc w ∧ (wc w).length ≤ 12 := by
  cases w with
  | n k =>
    obtain ⟨c, l, e⟩ := num_cons k hw
    have hd := num_cps k
    have hl := num_len k hw
    refine ⟨by simp [wc, Wd.text, e], fun h => absurd (hd 32 h) (by decide), by rw [wc_len]; simp [Wd.text]; lia⟩
  | u k =>
    obtain ⟨c, l, e⟩ := num_cons k hw
    have hd := num_cps k
    have hl := num_len k hw
    refine ⟨by simp [wc, Wd.text, String.toList_append, e], fun h => ?_, by rw [wc_len]; simp [Wd.text, String.length_append, show "u8".length = 2 by decide]; lia⟩
    simp only [wc, Wd.text, String.toList_append, List.map_append, List.mem_append] at h
    rcases h with h | h
    · exact absurd (hd 32 h) (by decide)
    · exact absurd h (by decide)
  | s x =>
    have hw' : okLit x = true := hw
    unfold okLit at hw'
    cases e : x.toList.map Char.toNat with
    | nil => rw [e] at hw'; simp at hw'
    | cons c l =>
      rw [e] at hw'
      simp only [Bool.and_eq_true, Bool.not_eq_true', beq_iff_eq, decide_eq_true_eq] at hw'
      refine ⟨by simp [wc, Wd.text, e], ?_, ?_⟩
      · simp only [wc, Wd.text, e]
        intro h
        have := hw'.2
        rw [List.contains_iff_mem.mpr h] at this
        exact absurd this (by decide)
      · simp only [wc, Wd.text, e]
        lia
noncomputable abbrev Wgs := List (Wd × Nat)
noncomputable def flat : Wgs → List Nat
  | [] => []
  | x :: r => wc x.1 ++ (List.replicate x.2 32 ++ flat r)
noncomputable def tx (g : Nat) (x : Wgs) : List Nat := List.replicate g 32 ++ flat x
noncomputable def partsL : Nat → Wgs → List (List Nat)
  | g, [] => List.replicate g [] ++ [[]]
  | g, x :: r => List.replicate g [] ++ wc x.1 :: partsL (x.2 - 1) r
theorem partsL_ne (g : Nat) (x : Wgs) : partsL g x ≠ [] := by induction x <;> simp [partsL]
theorem joinL_cons (c : Nat) (a : List Nat) (X : List (List Nat)) (h : X ≠ []) : joinL c (a :: X) = a ++ c :: joinL c X := by
  cases X with
  | nil => exact absurd rfl h
  | cons b r => rfl
theorem joinL_rep (c g : Nat) (X : List (List Nat)) (h : X ≠ []) : joinL c (List.replicate g [] ++ X) = List.replicate g c ++ joinL c X := by
  induction g with
  | zero => rfl
  | succ g ih =>
    rw [List.replicate_succ, List.cons_append, joinL_cons _ _ _ (by simp [h]), ih]
    rfl
theorem joinL_parts (wgs : Wgs) (hg : ∀ x ∈ wgs, 1 ≤ x.2) : ∀ g, joinL 32 (partsL g wgs) = tx g wgs := by
  induction wgs with
  | nil => intro g; simp only [partsL]; rw [joinL_rep _ _ _ (by simp)]; rfl
  | cons x r ih =>
    intro g
    simp only [partsL]
    rw [joinL_rep _ _ _ (by simp), joinL_cons _ _ _ (partsL_ne _ _), ih (fun y hy => hg y (List.mem_cons_of_mem _ hy))]
    have := hg x (by simp)
    simp only [tx, flat]
    congr 2
    rw [← List.cons_append, ← List.replicate_succ, show x.2 - 1 + 1 = x.2 by lia]
theorem parts_free (wgs : Wgs) (h : ∀ x ∈ wgs, 32 ∉ wc x.1) : ∀ g, ∀ p ∈ partsL g wgs, 32 ∉ p := by
  induction wgs with
  | nil =>
    intro g p hp
    simp [partsL] at hp
    rcases hp with ⟨_, rfl⟩ | rfl <;> simp
  | cons x r ih =>
    intro g p hp
    simp only [partsL, List.mem_append, List.mem_replicate, List.mem_cons] at hp
    rcases hp with ⟨_, rfl⟩ | rfl | hp
    · simp
    · exact h x (by simp)
    · exact ih (fun y hy => h y (List.mem_cons_of_mem _ hy)) _ p hp
theorem split_tx (g : Nat) (wgs : Wgs) (h : ∀ x ∈ wgs, 1 ≤ x.2 ∧ 32 ∉ wc x.1) : Txt.split (mk (tx g wgs)) (Str.ofString " ") = (partsL g wgs).map mk := by
  rw [← joinL_parts wgs (fun x hx => (h x hx).1), show Str.ofString " " = ⟨#[32]⟩ by decide]
  exact split_mk 32 _ (partsL_ne _ _) (parts_free wgs (fun x hx => (h x hx).2) g)
end
end Mine.P
end
section
namespace Mine.P
open PySem
noncomputable section
theorem app_end (H : Hp) (l : List D) (x : D) (hl : l.length < 2000) : appV H.length [.d x] (H ++ [.list l]) = .ok (.d .none) (H ++ [.list (l ++ [x])]) := by
  unfold appV
  rw [List.getElem?_append_right (Nat.le_refl _), Nat.sub_self]
  show R.guard (decide (l.length < 16000)) (R.ok (V.d .none) ((H ++ [O.list l]).set H.length (.list (l ++ [x])))) = _
  rw [List.set_append_right _ _ (Nat.le_refl _), Nat.sub_self, decide_eq_true (show l.length < 16000 by lia)]
  rfl
theorem get_end (H : Hp) (x : O) : (H ++ [x])[H.length]? = some x := by
  rw [List.getElem?_append_right (Nat.le_refl _), Nat.sub_self]; rfl
theorem set_end (H : Hp) (x y : O) : (H ++ [x]).set H.length y = H ++ [y] := by
  rw [List.set_append_right _ _ (Nat.le_refl _), Nat.sub_self]; rfl
theorem take_end (H : Hp) (x : O) : (H ++ [x]).take (H.length + 1) = H ++ [x] := List.take_of_length_le (by simp)
theorem len_str (l : List Nat) (H : Hp) (h : l.length < 100000) : bltnC 0 [.d (.str (mk l))] H = .ok (.d (.int l.length)) H := by
  simp only [binC_eq, idxC_eq, bltnC_eq, slC_eq, strC_eq]
  show R.guard (decide ((mk l).length ≤ line)) (retI (mk l).length H) = _
  have e2 : decide ((mk l).length ≤ line) = true := by
    rw [mk_len]; unfold line
    simp only [decide_eq_true_eq]; lia
  rw [e2, mk_len]; rfl
noncomputable def asgAL (loc : Loc) (a i : Nat) (d : D) (H : Hp) (o : Option O) : R (Fl × Loc) := match o with
        | some (.inst fs) => R.guard (attrIds.contains a && decide (fs.length < 100)) (.ok (.next, loc) (H.set i (.inst (setField fs a d))))
        | _ => .bad
noncomputable def asgAV (loc : Loc) (a : Nat) (v ov : V) (H : Hp) : R (Fl × Loc) := match v, ov with
      | .d d, .loc i => asgAL loc a i d H H[i]?
      | _, _ => .bad
noncomputable def asgAK (n : Nat) (ks : Ks) (loc : Loc) (o : Ex) (a : Nat) (v : V) (H : Hp) : R (Fl × Loc) := (evalC n ks loc o H).bnd (asgAV loc a v)
@[simp] theorem asgAK_eq (n : Nat) (ks : Ks) (loc : Loc) (o : Ex) (a : Nat) (v : V) (H : Hp) : asgAK n ks loc o a v H = (evalC n ks loc o H).bnd (asgAV loc a v) := rfl
@[simp] theorem s_asgA (n : Nat) (ks : Ks) (loc : Loc) (H : Hp) (o e : Ex) (a : Nat) : execC (n + 1) ks loc (.asgA o a e) H = (evalC n ks loc e H).bnd (asgAK n ks loc o a) := rfl
theorem asgA_end (loc : Loc) (a : Nat) (d : D) (H : Hp) (fs : List (Nat × D)) (ha : attrIds.contains a = true) (hf : fs.length < 10) :
    asgAV loc a (.d d) (.loc H.length) (H ++ [.inst fs]) = .ok (.next, loc) (H ++ [.inst (setField fs a d)]) := by
  show asgAL loc a H.length d (H ++ [.inst fs]) (H ++ [.inst fs])[H.length]? = _
  rw [get_end]
  show R.guard (attrIds.contains a && decide (fs.length < 100)) (R.ok (Fl.next, loc) ((H ++ [O.inst fs]).set H.length (.inst (setField fs a d)))) = _
  rw [ha, set_end, decide_eq_true (show fs.length < 100 by lia)]
  rfl
theorem list_L (l : List D) (H : Hp) (hl : l.length < 2000) : bltnC 5 [.d (.list l)] H = .ok (.d (.list l)) H := by
  simp only [binC_eq, idxC_eq, bltnC_eq, slC_eq, strC_eq]
  show R.guard (decide (l.length ≤ 16384)) _ = _
  rw [decide_eq_true (by lia)]; rfl
theorem init_ok (n : Nat) (H : Hp) (rows : List D) (hl : rows.length < 2000) :
    callT (n + 6) 1015 [.loc H.length, .d (.list rows)] (H ++ [.inst []]) = .ok (.d .none) (H ++ [wd rows 0 0]) := by
  have e := fun H => list_L rows H hl
  have e1 := fun loc d fs => asgA_end loc 20 d H fs (by decide)
  have e2 := fun loc d fs => asgA_end loc 21 d H fs (by decide)
  have e3 := fun loc d fs => asgA_end loc 22 d H fs (by decide)
  rw [cf _ _ _ _ f1015 (by rfl) _ (by rfl)]
  simp [-BEq.rfl, f1015, e, e1, e2, e3, setField, wd, take_end]
noncomputable def newV (i : Nat) (v : V) (H' : Hp) : R V := match v with
        | .d .none => .ok (.loc i) H'
        | _ => .bad
@[simp] theorem newV_eq (i : Nat) (H : Hp) : newV i (.d .none) H = .ok (.loc i) H := rfl
@[simp] theorem ap_9 (n : Nat) (vs : List V) (H : Hp) : applyC (n + 1) (.d (.gv 9)) vs H = (callT n 1015 (.loc H.length :: vs) (H ++ [.inst []])).only.bnd (newV H.length) := rfl
theorem b_addE (H : Hp) (x y : List D) (h : x.length + y.length < 10000) : binC .Add (.loc H.length) (.d (.list y)) (H ++ [.list x]) = .ok (.d (.list (x ++ y))) (H ++ [.list x]) := by
  simp only [binC_eq, idxC_eq, bltnC_eq, slC_eq, strC_eq]
  have e2 : decide (x.length + y.length ≤ line) = true := by
    unfold line
    simp only [decide_eq_true_eq]; lia
  show (R.opt (listOf (H ++ [.list x]) (.loc H.length)) fun x => R.opt (some y) fun y => R.guard (decide (x.length + y.length ≤ line)) (R.ok (V.d (.list (x ++ y))) _)) = _
  rw [lst_loc x _ _ (get_end H (.list x))]
  show R.guard (decide (x.length + y.length ≤ line)) _ = _
  rw [e2]; rfl
noncomputable def rowsT : Nat → Nat → Wgs → List D
  | _, _, [] => []
  | g, s, x :: r => x.1.tok ((s + g : Nat) : Int) :: rowsT x.2 (s + g + (wc x.1).length) r
theorem rowsT_shift (h s : Nat) (r : Wgs) (h1 : 1 ≤ h) : rowsT (h - 1) (s + 1) r = rowsT h s r := by
  cases r with
  | nil => rfl
  | cons y r =>
    simp only [rowsT]
    rw [show s + 1 + (h - 1) = s + h by lia]
noncomputable def WgsOk (w : Wgs) : Prop := ∀ x ∈ w, WdOk x.1 ∧ 1 ≤ x.2
noncomputable def ks86 : Ks := [(31, .local), (20, .local), (21, .local), (87, .local), (84, .globalImplicit), (0, .globalImplicit), (9, .globalImplicit)]
noncomputable def body86 : List St := [.ifS (.cmp .NotEq (.nm 87) (.str (Str.ofString ""))) [.expr (.meth (.nm 20) 11 [.call 84 [.nm 87, .nm 21]])] [], .asg 21 (.bin .Add (.bin .Add (.nm 21) (.call 0 [.nm 87])) (.int 1))]
noncomputable def E86 (E : Loc) : Prop := E = [] ∨ ∃ a, E = [(87, a)]
theorem wgs_step0 (n : Nat) (H : Hp) (t : V) (s : Nat) (acc : List D) (E : Loc) (hE : E86 E) : ∃ E', E86 E' ∧
    bodyD (n + 16) ks86 87 body86 (.str (mk [])) ((31, t) :: (21, .d (.int s)) :: (20, .loc H.length) :: E) (H ++ [.list acc]) =
      .ok (.next, (31, t) :: (21, .d (.int ((s + 1 : Nat) : Int))) :: (20, .loc H.length) :: E') (H ++ [.list acc]) := by
  refine ⟨[(87, .d (.str (mk [])))], Or.inr ⟨_, rfl⟩, ?_⟩
  have e0 : Str.ofString "" = mk [] := by rw [ofS_mk]; rfl
  have e := fun H => len_str [] H (by simp)
  rcases hE with rfl | ⟨a, rfl⟩
  · simp [-BEq.rfl, bodyD, body86, ks86, e0, mk_inj, e]
  · simp [-BEq.rfl, bodyD, body86, ks86, e0, mk_inj, e]
theorem wgs_step1 (n : Nat) (H : Hp) (t : V) (s : Nat) (acc : List D) (E : Loc) (hE : E86 E) (w : Wd) (hw : WdOk w) (ha : acc.length < 1000) : ∃ E', E86 E' ∧
    bodyD (n + 16) ks86 87 body86 (.str (mk (wc w))) ((31, t) :: (21, .d (.int s)) :: (20, .loc H.length) :: E) (H ++ [.list acc]) =
      .ok (.next, (31, t) :: (21, .d (.int ((s + (wc w).length + 1 : Nat) : Int))) :: (20, .loc H.length) :: E') (H ++ [.list (acc ++ [w.tok (s : Int)])]) := by
  revert hE hw ha; revert n H t s acc E w
  refine @(eps7 (P := ?P) (dN, dH, dv, dN, du, dL, (Wd.n 0)) rfl ((?m : Pi7 ?P) _ _ _ _ _ _ _))
  intro n H t s acc E w hE hw ha
  refine ⟨[(87, .d (.str (mk (wc w))))], Or.inr ⟨_, rfl⟩, ?_⟩
  obtain ⟨h1, h2, h3⟩ := wc_ok w hw
  have e0 : Str.ofString "" = mk [] := by rw [ofS_mk]; rfl
  have e := fun H => len_str (wc w) H (by lia)
  have e2 := fun n H => word_ok w hw n (s : Int) H
  simp only [wordD, sg, ofS_mk] at e2
  have e3 : w.text.toList.map Char.toNat = wc w := rfl
  rw [e3] at e2
  have e4 := fun x => app_end H acc x (by lia)
  rcases hE with rfl | ⟨a, rfl⟩
  · simp [-BEq.rfl, bodyD, body86, ks86, e0, mk_inj, e, h1, e2, e4]
  · simp [-BEq.rfl, bodyD, body86, ks86, e0, mk_inj, e, h1, e2, e4]
theorem wgs_rep (n : Nat) (H : Hp) (t : V) (acc : List D) (X : List D) : ∀ (g s : Nat) (E : Loc), E86 E → ∃ E', E86 E' ∧
    forD (bodyD (n + 16) ks86 87 body86) (List.replicate g (.str (mk [])) ++ X) ((31, t) :: (21, .d (.int s)) :: (20, .loc H.length) :: E) (H ++ [.list acc]) =
      forD (bodyD (n + 16) ks86 87 body86) X ((31, t) :: (21, .d (.int ((s + g : Nat) : Int))) :: (20, .loc H.length) :: E') (H ++ [.list acc]) := by
  intro g
  induction g with
  | zero => intro s E hE; exact ⟨E, hE, rfl⟩
  | succ g ih =>
    intro s E hE
    obtain ⟨E1, hE1, e1⟩ := wgs_step0 n H t s acc E hE
    obtain ⟨E2, hE2, e2⟩ := ih (s + 1) E1 hE1
    refine ⟨E2, hE2, ?_⟩
    rw [List.replicate_succ, List.cons_append, forD_cons, e1, bind_ok, forS_next, e2, show s + 1 + g = s + (g + 1) by lia]
theorem wgs_loop (n : Nat) (H : Hp) (t : V) : ∀ (wgs : Wgs) (g s : Nat) (acc : List D) (E : Loc), WgsOk wgs → acc.length + wgs.length < 1000 → E86 E → ∃ E' s', E86 E' ∧
    forD (bodyD (n + 16) ks86 87 body86) ((partsL g wgs).map fun p => .str (mk p)) ((31, t) :: (21, .d (.int s)) :: (20, .loc H.length) :: E) (H ++ [.list acc]) =
      .ok (.next, (31, t) :: (21, s') :: (20, .loc H.length) :: E') (H ++ [.list (acc ++ rowsT g s wgs)]) := by
  intro wgs
  revert n H t wgs
  refine @(eps4 (P := ?P) (dN, dH, dv, (default : Mine.P.Wgs)) rfl ((?m : Pi4 ?P) _ _ _ _))
  intro n H t wgs
  induction wgs with
  | nil =>
    intro g s acc E hw ha hE
    simp only [partsL, List.map_append, List.map_replicate]
    obtain ⟨E1, hE1, e1⟩ := wgs_rep n H t acc (([[]] : List (List Nat)).map fun p => .str (mk p)) g s E hE
    obtain ⟨E2, hE2, e2⟩ := wgs_step0 n H t (s + g) acc E1 hE1
    refine ⟨E2, .d (.int ((s + g + 1 : Nat) : Int)), hE2, ?_⟩
    rw [e1, List.map_cons, forD_cons, e2, bind_ok, forS_next]
    simp [rowsT]
  | cons x r ih =>
    intro g s acc E hw ha hE
    have hx := hw x (by simp)
    simp only [partsL, List.map_append, List.map_replicate]
    obtain ⟨E1, hE1, e1⟩ := wgs_rep n H t acc ((wc x.1 :: partsL (x.2 - 1) r).map fun p => .str (mk p)) g s E hE
    obtain ⟨E2, hE2, e2⟩ := wgs_step1 n H t (s + g) acc E1 hE1 x.1 hx.1 (by lia)
    obtain ⟨E3, s3, hE3, e3⟩ := ih (x.2 - 1) (s + g + (wc x.1).length + 1) (acc ++ [x.1.tok ((s + g : Nat) : Int)]) E2 (fun y hy => hw y (List.mem_cons_of_mem _ hy)) (by simp at ha ⊢; lia) hE2
    refine ⟨E3, s3, hE3, ?_⟩
    rw [e1, List.map_cons, forD_cons, e2, bind_ok, forS_next, e3, rowsT_shift _ _ _ hx.2]
    simp only [rowsT, List.append_assoc, List.singleton_append]
theorem rowsT_len (r : Wgs) : ∀ g s, (rowsT g s r).length = r.length := by
  induction r with
  | nil => intro g s; rfl
  | cons x r ih => intro g s; simp [rowsT, ih]
theorem flat_len (r : Wgs) (h : ∀ x ∈ r, (wc x.1).length ≤ 12 ∧ x.2 ≤ 8) : (flat r).length ≤ 20 * r.length := by
  induction r with
  | nil => simp [flat]
  | cons x r ih =>
    have h1 := h x (by simp)
    have h2 := ih (fun y hy => h y (List.mem_cons_of_mem _ hy))
    simp [flat]; lia
theorem parts_len (r : Wgs) (h : ∀ x ∈ r, x.2 ≤ 8) : ∀ g, (partsL g r).length ≤ g + 1 + 9 * r.length := by
  induction r with
  | nil => intro g; simp [partsL]
  | cons x r ih =>
    intro g
    have h1 := h x (by simp)
    have h2 := ih (fun y hy => h y (List.mem_cons_of_mem _ hy)) (x.2 - 1)
    simp [partsL]; lia
noncomputable def endT (n : Nat) : D := .tup [sg "end", sg "", .int n, .none, .none]
theorem m_split (s y : Str) (H : Hp) (h1 : s.length ≤ 1000000) (h2 : 0 < y.length) (h3 : (Txt.split s y).length ≤ 100000) : strC 14 s [.d (.str y)] H = .ok (.d (.list ((Txt.split s y).map .str))) H := by
  simp only [binC_eq, idxC_eq, bltnC_eq, slC_eq, strC_eq]
  show R.guard (decide (s.length ≤ 1000000) && decide (0 < y.length) && decide ((Txt.split s y).length ≤ line)) _ = _
  have e2 : decide ((Txt.split s y).length ≤ line) = true := by
    unfold line
    simp only [decide_eq_true_eq]; lia
  rw [decide_eq_true h1, decide_eq_true h2, e2]; rfl
theorem lv_loc (n i : Nat) (loc : Loc) (H : Hp) (o : O) (h : H[i]? = some o) (hi : ¬ i < n) : leaveF n (.ok (.ret (.loc i), loc) H) = .ok (.loc n) (H.take n ++ [o]) := by
  show (if i < n then R.ok (V.loc i) (H.take n) else match H[i]? with
    | some o => R.ok (V.loc n) (H.take n ++ [o])
    | Option.none => R.bad) = _
  rw [if_neg hi, h]
theorem words_ok (n g : Nat) (wgs : Wgs) (hw : WgsOk wgs) (hg : ∀ x ∈ wgs, x.2 ≤ 8) (h0 : g ≤ 8) (hl : wgs.length ≤ 500) (H : Hp) :
    callT (n + 18) 86 [.d (.str (mk (tx g wgs)))] H = .ok (.loc H.length) (H ++ [wd (rowsT g 0 wgs ++ [endT (tx g wgs).length]) 0 0]) := by
  revert hw hg h0 hl; revert n g wgs H
  refine @(eps4 (P := ?P) (dN, dN, (default : Mine.P.Wgs), dH) rfl ((?m : Pi4 ?P) _ _ _ _))
  intro n g wgs H hw hg h0 hl
  have hf := flat_len wgs (fun x hx => ⟨(wc_ok x.1 (hw x hx).1).2.2, hg x hx⟩)
  have ht : (tx g wgs).length ≤ 10008 := by simp [tx]; lia
  have hp := parts_len wgs hg g
  have hs := split_tx g wgs (fun x hx => ⟨(hw x hx).2, (wc_ok x.1 (hw x hx).1).2.1⟩)
  have e1 := fun H => m_split (mk (tx g wgs)) (Str.ofString " ") H (by rw [mk_len]; lia) (by rw [len_of]; decide) (by rw [hs, List.length_map]; lia)
  rw [hs, List.map_map] at e1
  have e2 := fun loc H => forV_list (n + 16) ks86 87 body86 loc ((partsL g wgs).map fun p => .str (mk p)) H (by simp; lia)
  obtain ⟨E, s', hE, e3⟩ := wgs_loop n H (.d (.str (mk (tx g wgs)))) wgs g 0 [] [] hw (by simp; lia) (Or.inl rfl)
  have e4 := fun H => len_str (tx g wgs) H (by lia)
  have e5 := b_addE H (rowsT g 0 wgs) [endT (tx g wgs).length] (by rw [rowsT_len]; simp; lia)
  have e6 := fun n => init_ok n (H ++ [.list (rowsT g 0 wgs)]) (rowsT g 0 wgs ++ [endT (tx g wgs).length]) (by simp [rowsT_len]; lia)
  have hc : (fun p => D.str (mk p)) = D.str ∘ mk := rfl
  rw [hc] at e2 e3
  simp [ks86, body86] at e2 e3
  simp only [endT] at e5 e6
  simp at e5 e6
  rw [cf _ _ _ _ f86 (by rfl) _ (by rfl)]
  have e7 := fun loc => lv_loc H.length (H.length + 1) loc (H ++ [O.list (rowsT g 0 wgs), wd (rowsT g 0 wgs ++ [endT (tx g wgs).length]) 0 0]) _ (by rw [List.getElem?_append_right (by lia)]; simp; rfl) (by lia)
  simp only [endT] at e7
  rcases hE with rfl | ⟨a, rfl⟩
  · simp [-BEq.rfl, f86, e1, e2, e3, e4, e5, e6, e7, endT]
  · simp [-BEq.rfl, f86, e1, e2, e3, e4, e5, e6, e7, endT]
end
end Mine.P
end
section
namespace Mine.P
open PySem
noncomputable section
noncomputable def startsL : Nat → Wgs → List D
  | _, [] => []
  | s, x :: r => .int s :: startsL (s + (wc x.1).length + x.2) r
theorem startsL_len (r : Wgs) : ∀ s, (startsL s r).length = r.length := by
  induction r with
  | nil => intro s; rfl
  | cons x r ih => intro s; simp [startsL, ih]
theorem sp_s : Str.ofString " " = mk [32] := by decide
theorem b_mulS (r : Nat) (H : Hp) (h : r ≤ 2) : binC .Mult (.d (sg " ")) (.d (.int r)) H = .ok (.d (.str (mk (List.replicate r 32)))) H := by
  simp only [binC_eq, idxC_eq, bltnC_eq, slC_eq, strC_eq]
  match r, h with
  | 0, _ => simp only [sg, sp_s]; rfl
  | 1, _ => simp only [sg, sp_s]; rfl
  | 2, _ => simp only [sg, sp_s]; rfl
  | r + 3, h => lia
theorem b_addS (a b : List Nat) (H : Hp) (h : a.length + b.length < 100000) : binC .Add (.d (.str (mk a))) (.d (.str (mk b))) H = .ok (.d (.str (mk (a ++ b)))) H := by
  simp only [binC_eq, idxC_eq, bltnC_eq, slC_eq, strC_eq]
  have e2 : decide ((mk a).length + (mk b).length ≤ line) = true := by
    rw [mk_len, mk_len]; unfold line
    simp only [decide_eq_true_eq]; lia
  show R.guard (decide ((mk a).length + (mk b).length ≤ line)) (retS (mk a ++ mk b) H) = _
  rw [e2, mk_app]; rfl
noncomputable def ks92 : Ks := [(79, .local), (36, .local), (31, .local), (93, .local), (29, .local), (78, .globalImplicit), (0, .globalImplicit)]
noncomputable def body92 : List St := [.expr (.meth (.nm 93) 11 [.call 0 [.nm 31]]), .asg 31 (.bin .Add (.bin .Add (.nm 31) (.nm 29)) (.bin .Mult (.str (Str.ofString " ")) (.bin .Add (.int 1) (.call 78 [.nm 79, .int 2]))))]
noncomputable def E92 (E : Loc) : Prop := E = [] ∨ ∃ a, E = [(29, a)]
theorem app_S (S : O) (T : Hp) (l : List D) (x : D) (hl : l.length < 2000) : appV (T.length + 1) [.d x] (S :: (T ++ [.list l])) = .ok (.d .none) (S :: (T ++ [.list (l ++ [x])])) :=
  app_end (S :: T) l x hl
theorem get_S (S : O) (T : Hp) (x : O) : (S :: (T ++ [x]))[T.length + 1]? = some x := get_end (S :: T) x
theorem addE_S (S : O) (T : Hp) (x y : List D) (h : x.length + y.length < 10000) : binC .Add (.loc (T.length + 1)) (.d (.list y)) (S :: (T ++ [.list x])) = .ok (.d (.list (x ++ y))) (S :: (T ++ [.list x])) :=
  b_addE (S :: T) x y h
theorem written_step (S : O) (hS : Src S) (w : Wd) (hw : (wc w).length ≤ 12) : ∃ (h : Nat) (S' : O), 1 ≤ h ∧ h ≤ 2 ∧ Src S' ∧
    ∀ n T (u : V) (t : List Nat) (acc : List D) (E : Loc), E92 E → t.length < 20000 → acc.length < 1000 → ∃ E', E92 E' ∧
      bodyD (n + 18) ks92 29 body92 (wordD w) ((79, .loc 0) :: (36, u) :: (93, .loc (T.length + 1)) :: (31, .d (.str (mk t))) :: E) (S :: (T ++ [.list acc])) =
        .ok (.next, (79, .loc 0) :: (36, u) :: (93, .loc (T.length + 1)) :: (31, .d (.str (mk (t ++ (wc w ++ List.replicate h 32))))) :: E') (S' :: (T ++ [.list (acc ++ [.int t.length])])) := by
  obtain ⟨r, S', hr, hS', e1⟩ := draw S hS 2 (by decide) (by decide)
  refine ⟨1 + r, S', by lia, by lia, hS', fun n T u t acc E hE ht ha => ⟨[(29, wordD w |> V.d)], Or.inr ⟨_, rfl⟩, ?_⟩⟩
  have e2 := fun H => len_str t H (by lia)
  have e3 := app_S S T acc (.int t.length) (by lia)
  have e7 : Str.ofString w.text = mk (wc w) := ofS_mk w.text
  have e4 : ∀ H, binC .Add (.d (.str (mk t))) (.d (sg w.text)) H = .ok (.d (.str (mk (t ++ wc w)))) H := by
    intro H
    simp only [sg, e7]
    exact b_addS t (wc w) H (by lia)
  have e5 := fun H => b_mulS (1 + r) H (by lia)
  have e6 := fun H => b_addS (t ++ wc w) (List.replicate (1 + r) 32) H (by simp; lia)
  simp at e5 e6
  rcases hE with rfl | ⟨a, rfl⟩
  · simp [-BEq.rfl, bodyD, body92, ks92, get_S, e1, e2, e3, e4, e5, e6, wordD]
  · simp [-BEq.rfl, bodyD, body92, ks92, get_S, e1, e2, e3, e4, e5, e6, wordD]
theorem written_loop : ∀ (ws : List Wd) (S : O), Src S → (∀ w ∈ ws, (wc w).length ≤ 12) → ∃ (wgs : Wgs) (S' : O), wgs.map (·.1) = ws ∧ (∀ x ∈ wgs, 1 ≤ x.2 ∧ x.2 ≤ 2) ∧ Src S' ∧
    ∀ n T (u : V) (t : List Nat) (acc : List D) (E : Loc), E92 E → t.length + 20 * ws.length < 20000 → acc.length + ws.length < 900 → ∃ E', E92 E' ∧
      forD (bodyD (n + 18) ks92 29 body92) (ws.map wordD) ((79, .loc 0) :: (36, u) :: (93, .loc (T.length + 1)) :: (31, .d (.str (mk t))) :: E) (S :: (T ++ [.list acc])) =
        .ok (.next, (79, .loc 0) :: (36, u) :: (93, .loc (T.length + 1)) :: (31, .d (.str (mk (t ++ flat wgs)))) :: E') (S' :: (T ++ [.list (acc ++ startsL t.length wgs)])) := by
  intro ws
  induction ws with
  | nil =>
    intro S hS hw
    exact ⟨[], S, rfl, by simp, hS, fun n T u t acc E hE _ _ => ⟨E, hE, by simp [flat, startsL]⟩⟩
  | cons w ws ih =>
    intro S hS hw
    have hw1 := hw w (by simp)
    obtain ⟨h, S1, h1, h2, hS1, e1⟩ := written_step S hS w hw1
    obtain ⟨wgs, S2, hm, hg, hS2, e2⟩ := ih S1 hS1 (fun y hy => hw y (List.mem_cons_of_mem _ hy))
    refine ⟨(w, h) :: wgs, S2, by simp [hm], by simp; exact ⟨⟨h1, h2⟩, fun a b hab => hg (a, b) hab⟩, hS2, fun n T u t acc E hE ht ha => ?_⟩
    simp at ht ha
    obtain ⟨E1, hE1, e1⟩ := e1 n T u t acc E hE (by lia) (by lia)
    obtain ⟨E2, hE2, e2⟩ := e2 n T u (t ++ (wc w ++ List.replicate h 32)) (acc ++ [.int t.length]) E1 hE1 (by simp; lia) (by simp; lia)
    refine ⟨E2, hE2, ?_⟩
    rw [List.map_cons, forD_cons, e1, bind_ok, forS_next, e2]
    simp [flat, startsL, Nat.add_assoc]
theorem written (S : O) (hS : Src S) (ws : List Wd) (hw : ∀ w ∈ ws, (wc w).length ≤ 12) (hl : ws.length ≤ 500) : ∃ (g : Nat) (wgs : Wgs) (S' : O), g ≤ 1 ∧ wgs.map (·.1) = ws ∧ (∀ x ∈ wgs, 1 ≤ x.2 ∧ x.2 ≤ 2) ∧ Src S' ∧
    ∀ n T, callT (n + 20) 92 [.loc 0, .d (.list (ws.map wordD))] (S :: T) = .ok (.d (.tup [.str (mk (tx g wgs)), .list (startsL g wgs ++ [.int (tx g wgs).length])])) (S' :: T) := by
  obtain ⟨g, S1, hg, hS1, e1⟩ := draw S hS 2 (by decide) (by decide)
  obtain ⟨wgs, S2, hm, hg2, hS2, h⟩ := written_loop ws S1 hS1 hw
  refine ⟨g, wgs, S2, by lia, hm, hg2, hS2, fun n T => ?_⟩
  obtain ⟨E, hE, e2⟩ := h n T (.d (.list (ws.map wordD))) (List.replicate g 32) [] [] (Or.inl rfl) (by simp; lia) (by simp; lia)
  have hlen : wgs.length = ws.length := by rw [← hm, List.length_map]
  have hf := flat_len wgs (fun x hx => ⟨hw x.1 (by rw [← hm]; exact List.mem_map_of_mem hx), by have := hg2 x hx; lia⟩)
  have ht : (tx g wgs).length ≤ 10008 := by simp [tx]; lia
  have e3 := fun H => b_mulS g H (by lia)
  have e4 := fun loc H => forV_list (n + 18) ks92 29 body92 loc (ws.map wordD) H (by simp; lia)
  have e5 := fun H => len_str (tx g wgs) H (by lia)
  have e6 := addE_S S2 T (startsL g wgs) [.int (tx g wgs).length] (by simp [startsL_len]; lia)
  simp [ks92, body92] at e2 e4
  simp only [show List.replicate g 32 ++ flat wgs = tx g wgs from rfl] at e2
  rw [cf _ _ _ _ f92 (by rfl) _ (by rfl)]
  rcases hE with rfl | ⟨a, rfl⟩
  · simp [-BEq.rfl, f92, e1, e2, e3, e4, e5, e6]
  · simp [-BEq.rfl, f92, e1, e2, e3, e4, e5, e6]
end
end Mine.P
end
section
namespace Mine.P
open PySem
noncomputable section
noncomputable def Sm (n m : Nat) (x : D) : Prop := reprOk x = true ∧ (toPy x).leavesShort 13 = true ∧ (toPy x).weight ≤ n ∧ (toPy x).depth ≤ m
noncomputable def Sms (n m : Nat) (l : List D) : Prop := reprOks l = true ∧ PyData.leavesShortAll 13 (toPys l) = true ∧ PyData.weightAll (toPys l) ≤ n ∧ PyData.depthAll (toPys l) ≤ m
theorem Sms.nil {m : Nat} : Sms 0 m [] := ⟨rfl, rfl, Nat.le_refl _, Nat.zero_le _⟩
theorem Sm.cons {n n2 m : Nat} {x : D} {l : List D} (h : Sm n m x) (hl : Sms n2 m l) : Sms (n + 1 + n2) m (x :: l) := by
  obtain ⟨a, b, c, d⟩ := h
  obtain ⟨a2, b2, c2, d2⟩ := hl
  refine ⟨by simp [reprOks, a, a2], by simp [toPys, PyData.leavesShortAll, b, b2], ?_, ?_⟩
  · simp only [toPys, PyData.weightAll]; lia
  · simp only [toPys, PyData.depthAll]; lia
theorem Sms.app {n n2 m : Nat} {l l2 : List D} (h : Sms n m l) (hl : Sms n2 m l2) : Sms (n + n2) m (l ++ l2) := by
  induction l generalizing n with
  | nil =>
    obtain ⟨a2, b2, c2, d2⟩ := hl
    exact ⟨a2, b2, Nat.le_trans c2 (by lia), d2⟩
  | cons x l ih =>
    obtain ⟨a, b, c, d⟩ := h
    simp only [reprOks, Bool.and_eq_true, toPys, PyData.leavesShortAll, PyData.weightAll, PyData.depthAll] at a b c d
    obtain ⟨a2, b2, c2, d2⟩ := @ih (n - (toPy x).weight - 1) ⟨a.2, b.2, by lia, by lia⟩
    refine ⟨?_, ?_, ?_, ?_⟩
    · simp [reprOks, a.1, a2]
    · simp [toPys, PyData.leavesShortAll, b.1, b2]
    · simp only [List.cons_append, toPys, PyData.weightAll]; lia
    · simp only [List.cons_append, toPys, PyData.depthAll]; lia
theorem Sms.tup {n m : Nat} {l : List D} (h : Sms n m l) : Sm n (m + 1) (.tup l) := by
  obtain ⟨a, b, c, d⟩ := h
  exact ⟨a, b, c, by simp only [toPy, PyData.depth]; lia⟩
theorem Sms.list {n m : Nat} {l : List D} (h : Sms n m l) : Sm n (m + 1) (.list l) := by
  obtain ⟨a, b, c, d⟩ := h
  exact ⟨a, b, c, by simp only [toPy, PyData.depth]; lia⟩
theorem Sm.mono {n n' m m' : Nat} {x : D} (h : Sm n m x) (hn : n ≤ n') (hm : m ≤ m') : Sm n' m' x :=
  ⟨h.1, h.2.1, Nat.le_trans h.2.2.1 hn, Nat.le_trans h.2.2.2 hm⟩
theorem Sms.mono {n n' m m' : Nat} {x : List D} (h : Sms n m x) (hn : n ≤ n') (hm : m ≤ m') : Sms n' m' x :=
  ⟨h.1, h.2.1, Nat.le_trans h.2.2.1 hn, Nat.le_trans h.2.2.2 hm⟩
theorem sm_int {i : Int} (h1 : -1000000 ≤ i) (h2 : i ≤ 1000000) {m : Nat} : Sm 40 m (.int i) := by
  refine ⟨?_, ?_, ?_, Nat.zero_le _⟩
  · show decide (i.natAbs < 1000000000000000000) = true
    simp only [decide_eq_true_eq]; lia
  · show decide ((PyData.shown (.int i)).length ≤ 13) = true
    rw [decide_eq_true (PyData.shown_int_le2 (by lia) (by lia))]
  · show (if i == 0 then 0 else i.natAbs.log2 + 1) ≤ 40
    split
    · lia
    · have : i.natAbs.log2 < 30 := by
        by_cases h0 : i.natAbs = 0
        · rw [h0]; decide
        · exact (Nat.log2_lt h0).mpr (by lia)
      lia
theorem sm_none {m : Nat} : Sm 0 m .none := ⟨rfl, rfl, Nat.le_refl _, Nat.zero_le _⟩
theorem sm_bool {m : Nat} {b : Bool} : Sm 0 m (.bool b) := ⟨rfl, rfl, Nat.le_refl _, Nat.zero_le _⟩
theorem sm_str {m n : Nat} (l : List Nat) (h : ∀ c ∈ l, c < 128) (hl : l.length ≤ n) (hn : n ≤ 1000) : Sm n m (.str (mk l)) := by
  refine ⟨?_, ?_, ?_, Nat.zero_le _⟩
  · show decide ((mk l).length ≤ 1000) = true
    rw [mk_len]; simp only [decide_eq_true_eq]; lia
  · show (mk l).cps.toList.all (fun c => decide (c < 16 ^ 8)) = true
    rw [mk_list, List.all_eq_true]
    intro c hc
    have := h c hc
    simp only [decide_eq_true_eq]; lia
  · show (mk l).cps.size ≤ n
    simpa [mk] using hl
noncomputable def okS (x : String) : Bool := (x.toList.map Char.toNat).all (fun c => decide (c < 128)) && decide ((x.toList.map Char.toNat).length ≤ 60)
theorem sm_sg {m : Nat} (x : String) (h : okS x = true) : Sm 60 m (sg x) := by
  simp only [okS, Bool.and_eq_true, List.all_eq_true, decide_eq_true_eq] at h
  simp only [sg, ofS_mk]
  exact sm_str _ h.1 h.2 (by decide)
theorem repr_ok (x : D) (n m : Nat) (h : Sm n m x) (hn : n ≤ 100000) (hm : m ≤ 500) (H : Hp) : bltnC 6 [.d x] H = .ok (.d (.str (reprD x))) H := by
  simp only [binC_eq, idxC_eq, bltnC_eq, slC_eq, strC_eq]
  obtain ⟨a, b, c, d⟩ := h
  have hl := PyData.shown_le 13 (by decide) (toPy x) b
  show R.guard (reprOk x && decide ((reprD x).length ≤ line) && decide ((toPy x).depth ≤ 500)) _ = _
  have e2 : decide ((reprD x).length ≤ line) = true := by
    unfold line reprD
    simp only [decide_eq_true_eq]; lia
  rw [a, e2, decide_eq_true (by lia)]; rfl
theorem PK.sm {m : Nat} (k : PK) (hk : k.okay) (s : Int) (h1 : -1000000 ≤ s) (h2 : s ≤ 1000000) : Sm 250 (m + 1) (k.tree s) := by
  have hs := sm_int h1 h2 (m := m)
  induction k with
  | wild => exact (Sms.tup ((sm_sg "wild" (by decide)).cons (hs.cons Sms.nil))).mono (by lia) (Nat.le_refl _)
  | lit k => exact (Sms.tup ((sm_sg "lit" (by decide)).cons (hs.cons (Sm.cons (sm_int (i := (k : Int)) (by lia) (by simp [PK.okay] at hk; lia)) Sms.nil)))).mono (by lia) (Nat.le_refl _)
  | neg k => exact (Sms.tup ((sm_sg "lit" (by decide)).cons (hs.cons (Sm.cons (sm_int (i := 0 - (k : Int)) (by simp [PK.okay] at hk; lia) (by lia)) Sms.nil)))).mono (by lia) (Nat.le_refl _)
  | bool b => exact (Sms.tup ((sm_sg "lit" (by decide)).cons (hs.cons (Sm.cons sm_bool Sms.nil)))).mono (by lia) (Nat.le_refl _)
  | rng k => exact (Sms.tup ((sm_sg "range" (by decide)).cons (hs.cons (Sm.cons (sm_int (i := (k : Int)) (by lia) (by simp [PK.okay] at hk; lia)) (Sm.cons (sm_int (i := 900) (by lia) (by lia)) Sms.nil))))).mono (by lia) (Nat.le_refl _)
  | nam b => exact (Sms.tup ((sm_sg "name" (by decide)).cons (hs.cons (Sm.cons (sm_sg (namT b) (by induction b <;> decide)) (Sm.cons sm_bool (Sm.cons sm_bool (Sm.cons sm_none Sms.nil))))))).mono (by lia) (Nat.le_refl _)
noncomputable def SpOk (sp : Nat → Int) : Prop := ∀ i, 0 ≤ sp i ∧ sp i ≤ 100000
theorem PT.sm {m : Nat} (x : PT) (hx : x.okay) (sp : Nat → Int) (hs : SpOk sp) (q : Nat) : Sm 700 (m + 3) (x.tree sp q) := by
  obtain ⟨a, k, o⟩ := x
  have hb (i : Nat) : -1000000 ≤ sp i ∧ sp i ≤ 1000000 := by have := hs i; lia
  induction o with
  | none => exact (PK.sm (m := m + 2) k hx.1 _ (hb _).1 (hb _).2).mono (by lia) (Nat.le_refl _)
  | some k2 =>
    have h1 := PK.sm (m := m) k hx.1 (sp (q + PT.a ⟨a, k, some k2⟩)) (hb _).1 (hb _).2
    have h2 := PK.sm (m := m) k2 (hx.2 k2 rfl) (sp (q + PT.a ⟨a, k, some k2⟩ + k.words.length + 1)) (hb _).1 (hb _).2
    exact (Sms.tup ((sm_sg "or" (by decide)).cons ((sm_int (hb _).1 (hb _).2).cons (Sm.cons (Sms.tup (h1.cons (h2.cons Sms.nil))) Sms.nil)))).mono (by lia) (Nat.le_refl _)
theorem itT_sm {m : Nat} (sp : Nat → Int) (hs : SpOk sp) (xs : Its) (hx : ∀ y ∈ xs, y.1.okay) : ∀ q, Sms (701 * xs.length) (m + 3) (itT sp q xs) := by
  induction xs with
  | nil => intro q; exact Sms.nil
  | cons x r ih =>
    intro q
    have h1 := PT.sm (m := m) x.1 (hx x (by simp)) sp hs q
    have h2 := ih (fun y hy => hx y (List.mem_cons_of_mem _ hy)) (q + (x.1.words ++ sepW x.2).length)
    exact (h1.cons h2).mono (by simp; lia) (Nat.le_refl _)
end
end Mine.P
end
section
namespace Mine.P
open PySem
noncomputable section
noncomputable def posN : Nat → Wgs → List Nat
  | s, [] => [s]
  | s, x :: r => s :: posN (s + (wc x.1).length + x.2) r
noncomputable def spF (g : Nat) (r : Wgs) (i : Nat) : Int := ((posN g r).getD i 0 : Nat)
theorem posN_len (r : Wgs) : ∀ s, (posN s r).length = r.length + 1 := by
  induction r with
  | nil => intro s; rfl
  | cons x r ih => intro s; simp [posN, ih]
theorem starts_pos (r : Wgs) : ∀ s, startsL s r ++ [.int ((s + (flat r).length : Nat) : Int)] = (posN s r).map fun i : Nat => .int (i : Int) := by
  induction r with
  | nil => intro s; simp [startsL, posN, flat]
  | cons x r ih =>
    intro s
    have h := ih (s + (wc x.1).length + x.2)
    simp only [startsL, posN, List.cons_append, List.map_cons, flat, List.length_append, List.length_replicate]
    rw [← h, show s + ((wc x.1).length + (x.2 + (flat r).length)) = s + (wc x.1).length + x.2 + (flat r).length by lia]
theorem spots_eq (g : Nat) (r : Wgs) : D.list (startsL g r ++ [.int (tx g r).length]) = spotsD (spF g r) r.length := by
  have e : ((tx g r).length : Int) = ((g + (flat r).length : Nat) : Int) := by simp [tx]
  rw [e, starts_pos]
  unfold spotsD
  congr 1
  apply List.ext_getElem
  · simp [posN_len]
  · intro i h1 h2
    simp at h1 h2
    simp only [List.getElem_map, List.getElem_range, spF]
    rw [List.getD_eq_getElem?_getD, List.getElem?_eq_getElem h1]
    rfl
theorem rows_toks (r : Wgs) : ∀ (g s i0 : Nat) (sp : Nat → Int), (∀ j, j ≤ r.length → sp (i0 + j) = ((posN (s + g) r).getD j 0 : Nat)) → rowsT g s r = toks sp i0 (r.map (·.1)) := by
  induction r with
  | nil => intro g s i0 sp h; rfl
  | cons x r ih =>
    intro g s i0 sp h
    simp only [rowsT, List.map_cons, toks]
    have h0 := h 0 (by lia)
    simp [posN] at h0
    rw [h0]
    congr 1
    refine ih x.2 (s + g + (wc x.1).length) (i0 + 1) sp (fun j hj => ?_)
    have hj2 := h (j + 1) (by simp; lia)
    rw [show i0 + 1 + j = i0 + (j + 1) by lia, hj2]
    simp [posN]
theorem posN_le (r : Wgs) (h : ∀ x ∈ r, (wc x.1).length ≤ 12 ∧ x.2 ≤ 8) : ∀ s i, (posN s r).getD i 0 ≤ s + 20 * r.length := by
  induction r with
  | nil =>
    intro s i
    induction i <;> simp [posN]
  | cons x r ih =>
    intro s i
    have h1 := h x (by simp)
    cases i with
    | zero => simp [posN]
    | succ i =>
      have h2 := ih (fun y hy => h y (List.mem_cons_of_mem _ hy)) (s + (wc x.1).length + x.2) i
      simp only [posN, List.getD_cons_succ, List.length_cons]
      lia
theorem spF_last (r : Wgs) : ∀ g, spF g r r.length = ((g + (flat r).length : Nat) : Int) := by
  induction r with
  | nil => intro g; simp [spF, posN, flat]
  | cons x r ih =>
    intro g
    have h := ih (g + (wc x.1).length + x.2)
    simp only [spF, posN, List.length_cons, List.getD_cons_succ, flat, List.length_append, List.length_replicate] at h ⊢
    rw [h]; simp; lia
noncomputable def endD (x : Int) : D := .tup [sg "end", sg "", .int x, .none, .none]
theorem read_text (g : Nat) (wgs : Wgs) (hw : WgsOk wgs) (hg : ∀ x ∈ wgs, x.2 ≤ 8) (h0 : g ≤ 8) (hl : wgs.length ≤ 500) (n : Nat) (H : Hp) :
    callT (n + 18) 86 [.d (.str (mk (tx g wgs)))] H = .ok (.loc H.length) (H ++ [wd (toks (spF g wgs) 0 (wgs.map (·.1)) ++ [endD (spF g wgs wgs.length)]) 0 0]) := by
  rw [words_ok n g wgs hw hg h0 hl H]
  have e1 : rowsT g 0 wgs = toks (spF g wgs) 0 (wgs.map (·.1)) := rows_toks wgs g 0 0 (spF g wgs) (fun j hj => by simp [spF])
  have e2 : endT (tx g wgs).length = endD (spF g wgs wgs.length) := by
    rw [spF_last]; simp [endT, endD, tx]
  rw [e1, e2]
theorem spF_ok (g : Nat) (wgs : Wgs) (hw : WgsOk wgs) (hg : ∀ x ∈ wgs, x.2 ≤ 8) (h0 : g ≤ 8) (hl : wgs.length ≤ 500) : SpOk (spF g wgs) := by
  intro i
  have := posN_le wgs (fun x hx => ⟨(wc_ok x.1 (hw x hx).1).2.2, hg x hx⟩) g i
  unfold spF
  lia
noncomputable def rowsOf (sp : Nat → Int) (ws : List Wd) : List D := toks sp 0 ws ++ [endD (sp ws.length)]
theorem rowsOf_len (sp : Nat → Int) (ws : List Wd) : (rowsOf sp ws).length = ws.length + 1 := by simp [rowsOf, toks_len]
theorem written2 (S : O) (hS : Src S) (ws : List Wd) (hw : ∀ w ∈ ws, WdOk w) (hl : ws.length ≤ 500) : ∃ (text : Str) (sp : Nat → Int) (S' : O), Src S' ∧ SpOk sp ∧
    (∀ n T, callT (n + 20) 92 [.loc 0, .d (.list (ws.map wordD))] (S :: T) = .ok (.d (.tup [.str text, spotsD sp ws.length])) (S' :: T)) ∧
    (∀ n H, callT (n + 18) 86 [.d (.str text)] H = .ok (.loc H.length) (H ++ [wd (rowsOf sp ws) 0 0])) := by
  obtain ⟨g, wgs, S', hg, hm, hg2, hS', e⟩ := written S hS ws (fun w h => (wc_ok w (hw w h)).2.2) hl
  have hlen : wgs.length = ws.length := by rw [← hm, List.length_map]
  have hw2 : WgsOk wgs := fun x hx => ⟨hw x.1 (by rw [← hm]; exact List.mem_map_of_mem hx), (hg2 x hx).1⟩
  have hg3 : ∀ x ∈ wgs, x.2 ≤ 8 := fun x hx => by have := hg2 x hx; lia
  refine ⟨mk (tx g wgs), spF g wgs, S', hS', spF_ok g wgs hw2 hg3 (by lia) (by lia), fun n T => ?_, fun n H => ?_⟩
  · rw [e n T, ← hlen, spots_eq]
  · rw [read_text g wgs hw2 hg3 (by lia) (by lia) n H, hm, hlen]; rfl
theorem is0 (sp : Nat → Int) (ws : List Wd) : Is (rowsOf sp ws) sp 0 ws := ⟨[endD (sp ws.length)], rfl⟩
noncomputable def tryV (loc : Loc) (x : R V) : R (Fl × Loc) := match x with
      | .exc m sp H' => .ok (.ret (.d (.list [.str m, sp])), loc) H'
      | .ok v H' => .ok (.ret v, loc) H'
      | .bad => .bad
@[simp] theorem tryV_ok (loc : Loc) (v : V) (H : Hp) : tryV loc (.ok v H) = .ok (.ret v, loc) H := rfl
@[simp] theorem tryV_exc (loc : Loc) (m : Str) (sp : D) (H : Hp) : tryV loc (.exc m sp H) = .ok (.ret (.d (.list [.str m, sp])), loc) H := rfl
@[simp] theorem s_try (n : Nat) (ks : Ks) (loc : Loc) (H : Hp) (e : Ex) : execC (n + 1) ks loc (.try_ e) H = R.guard (loc.lookup 18).isNone (tryV loc (evalC n ks loc e H)) := rfl
theorem heardO (g : Nat) (hg : 9 < g) (hc : callable tab (.d (.gv g)) = true) (text : Str) (rows : List D) (H : Hp) (v : D) (p : Nat) (d : Int) (n : Nat)
    (h86 : ∀ n H, callT (n + 18) 86 [.d (.str text)] H = .ok (.loc H.length) (H ++ [wd rows 0 0]))
    (hr : ∀ n P T, callT (n + 55) g [.loc P.length] (hp P (wd rows 0 0) T) = .ok (.d v) (hp P (wd rows p d) T)) :
    callT (n + 60) 88 [.d (.gv g), .d (.str text)] H = .ok (.d (.tup [v, .int p])) H := by
  rw [cf _ _ _ _ f88 (by rfl) _ (by rfl)]
  have e : H ++ [wd rows 0 0] = hp H (wd rows 0 0) [] := rfl
  have hc86 : callable tab (.d (.gv 86)) = true := by simp
  have e2 := fun n => hr n H []
  have e3 := att_at H [] rows p d
  have e4 : (hp H (wd rows p d) []).take H.length = H := by simp [hp]
  simp [-BEq.rfl, f88, h86, e, hc, hc86, hg, e2, e3, e4, -call_any]
theorem heardX (g : Nat) (hg : 9 < g) (hc : callable tab (.d (.gv g)) = true) (text : Str) (rows : List D) (H : Hp) (m : Str) (sp : D) (p : Nat) (d : Int) (n : Nat)
    (h86 : ∀ n H, callT (n + 18) 86 [.d (.str text)] H = .ok (.loc H.length) (H ++ [wd rows 0 0]))
    (hr : ∀ n P T, callT (n + 55) g [.loc P.length] (hp P (wd rows 0 0) T) = .exc m sp (hp P (wd rows p d) T)) :
    callT (n + 60) 88 [.d (.gv g), .d (.str text)] H = .ok (.d (.list [.str m, sp])) H := by
  rw [cf _ _ _ _ f88 (by rfl) _ (by rfl)]
  have e : H ++ [wd rows 0 0] = hp H (wd rows 0 0) [] := rfl
  have hc86 : callable tab (.d (.gv 86)) = true := by simp
  have e2 := fun n => hr n H []
  have e4 : (hp H (wd rows p d) []).take H.length = H := by simp [hp]
  simp [-BEq.rfl, f88, h86, e, hc, hc86, hg, e2, e4, -call_any]
theorem isT (g : Nat) (text : Str) (x : D) (H : Hp) (n : Nat) (hx : Sm 100000 500 x)
    (hh : ∀ n, callT (n + 60) 88 [.d (.gv g), .d (.str text)] H = .ok (.d x) H) :
    callT (n + 66) 90 [.d (.gv g), .d (.str text), .d x] H = .ok (.d (.bool true)) H := by
  have e := fun H => repr_ok x _ _ hx (Nat.le_refl _) (Nat.le_refl _) H
  rw [cf _ _ _ _ f90 (by rfl) _ (by rfl)]
  simp [-BEq.rfl, f90, hh, e]
end
end Mine.P
end
section
namespace Mine.P
open PySem
noncomputable section
theorem c_eqBB (a b : Bool) (H : Hp) : cmpV .Eq (.d (.bool a)) (.d (.bool b)) H = some (a == b) := rfl
noncomputable def signs9 : List String := ["::", "(", "{", ",", ")", "@", "|", ":", ""]
theorem names_core (S0 S1 S2 : O) (s : String) (text : Str) (l : D) (rows : List D) (a c : String) (t : List D)
    (hone : ∀ n T, callT (n + 17) 82 [.loc 0, .d (.list (signs9.map sg))] (S0 :: T) = .ok (.d (sg s)) (S1 :: T))
    (h92 : ∀ n T, callT (n + 20) 92 [.loc 0, .d (.list [sg "a", sg s])] (S1 :: T) = .ok (.d (.tup [.str text, l])) (S2 :: T))
    (h86 : ∀ n H, callT (n + 18) 86 [.d (.str text)] H = .ok (.loc H.length) (H ++ [wd rows 0 0]))
    (hr : rows[0 + 1]? = some (.tup (sg a :: sg c :: t))) (hl : rows.length ≤ 1000)
    (hb : (!(lookB a c "::" || lookB a c "(" || lookB a c "{")) = !(["::", "(", "{"].contains s)) (n : Nat) (T : Hp) :
    callT (n + 70) 108 [.loc 0] (S0 :: T) = .ok (.d (.bool true)) (S2 :: T) := by
  have e := fun n => alone (S2 :: T) [] rows 0 0 n a c t hr hl
  rw [hb] at e
  have e3 : (hp (S2 :: T) (wd rows 0 0) []).take (T.length + 1) = S2 :: T := by simp [hp]
  have e4 : ∀ n, callT (n + 18) 86 [.d (.str text)] (S2 :: T) = .ok (.loc (T.length + 1)) (hp (S2 :: T) (wd rows 0 0) []) := fun n => h86 n (S2 :: T)
  have e5 : attV 21 (.loc (T.length + 1)) (hp (S2 :: T) (wd rows 0 0) []) = .ok (.d (.int (0 : Nat))) (hp (S2 :: T) (wd rows 0 0) []) := att_at (S2 :: T) [] rows 0 0
  simp [signs9] at hone
  simp at e e5
  rw [cf _ _ _ _ f108 (by rfl) _ (by rfl)]
  have q (x : String) : (x = s) = (s = x) := propext eq_comm
  simp [-BEq.rfl, f108, hone, h92, e4, e, e5, e3, c_eqBB, inSeq_c, inSeq_0, q "::", q "(", q "{"]
theorem names_right (S : O) (hS : Src S) : ∃ S', Src S' ∧ ∀ n T, callT (n + 70) 108 [.loc 0] (S :: T) = .ok (.d (.bool true)) (S' :: T) := by
  obtain ⟨x, S1, hx, hS1, e1⟩ := one S hS (signs9.map sg) (by decide) (by decide)
  obtain ⟨s, hs, rfl⟩ := List.mem_map.mp hx
  by_cases h0 : s = ""
  · subst h0
    obtain ⟨g, wgs, S2, hg, hm, hg2, hS2, e2⟩ := written S1 hS1 [.s "a", .s ""] (by decide) (by decide)
    obtain ⟨⟨w1, g1⟩, r1, rfl⟩ : ∃ x r, wgs = x :: r := by induction wgs <;> simp at hm ⊢
    obtain ⟨⟨w2, g2⟩, r2, rfl⟩ : ∃ x r, r1 = x :: r := by induction r1 <;> simp at hm ⊢
    obtain rfl : r2 = [] := by induction r2 <;> simp at hm ⊢
    simp at hm
    obtain ⟨rfl, rfl⟩ := hm
    simp at hg2
    have e3 : tx g [(.s "a", g1), (.s "", g2)] = tx g [(.s "a", g1 + g2)] := by
      simp [tx, flat, wc, Wd.text]
    rw [e3] at e2
    have e4 := fun n H => read_text g [(.s "a", g1 + g2)] (by intro x hx; simp at hx; subst hx; exact ⟨lits_ok "a" (by decide), by lia⟩) (by intro x hx; simp at hx; subst hx; simp; lia) (by lia) (by simp) n H
    exact ⟨S2, hS2, fun n T => names_core S S1 S2 "" _ _ _ "end" "" _ e1 e2 e4 rfl (by simp [toks]) (by decide) n T⟩
  · have hw : ∀ w ∈ [Wd.s "a", .s s], WdOk w := by
      intro w hw
      simp at hw
      rcases hw with rfl | rfl
      · exact lits_ok "a" (by decide)
      · refine lits_ok s ?_
        simp [signs9] at hs
        rcases hs with rfl | rfl | rfl | rfl | rfl | rfl | rfl | rfl | rfl
        all_goals first | decide | exact absurd rfl h0
    obtain ⟨text, sp, S2, hS2, hsp, e2, e3⟩ := written2 S1 hS1 _ hw (by simp)
    refine ⟨S2, hS2, fun n T => names_core S S1 S2 s text _ _ (kind s) s _ e1 e2 e3 rfl (by simp [rowsOf_len]) ?_ n T⟩
    simp [signs9] at hs
    rcases hs with rfl | rfl | rfl | rfl | rfl | rfl | rfl | rfl | rfl
    all_goals first | decide | exact absurd rfl h0
end
end Mine.P
end
section
namespace Mine.P
open PySem
noncomputable section
theorem ofS_app (a b : String) : Str.ofString a ++ Str.ofString b = Str.ofString (a ++ b) := by
  rw [ofS_mk, ofS_mk, ofS_mk, mk_app, String.toList_append, List.map_append]
theorem b_addSS (a b : String) (H : Hp) (ha : a.length ≤ 100) (hb : b.length ≤ 100) : binC .Add (.d (sg a)) (.d (sg b)) H = .ok (.d (sg (a ++ b))) H := by
  have h := b_addS (a.toList.map Char.toNat) (b.toList.map Char.toNat) H (by simp [String.length_toList]; lia)
  simp only [sg, ofS_mk, String.toList_append, List.map_append]
  exact h
theorem num_ne (k : Nat) (hk : k < 1000) (x : String) (c : Nat) (l : List Nat) (hx : x.toList.map Char.toNat = c :: l) (hc : c ∉ digs) : Nat.repr k ≠ x := by
  intro e
  have h := num_cps k
  rw [e, hx] at h
  exact hc (h c (by simp))
theorem num_pos (k : Nat) (hk : k < 1000) : 0 < (Nat.repr k).length := by
  obtain ⟨c, l, e⟩ := num_cons k hk
  rw [← String.length_toList, ← List.length_map (f := Char.toNat), e]; simp
theorem ne_len {a b : String} (h : a.length ≠ b.length) : a ≠ b := fun e => h (by rw [e])
theorem idx_sp' (sp : Nat → Int) (N i : Nat) (H : Hp) (hi : i ≤ N) (hN : N < 900) : idxC (.d (spotsD sp N)) (.d (.int (i : Int))) H = .ok (.d (.int (sp i))) H := idx_sp sp N i H hi hN
noncomputable def wholeDue (m : Nat) (below : Bool) (sp : Nat → Int) (w : Wd) : D := match w with
  | .n k => .tup [.int (if below then 0 - (m : Int) else m), .int (if below then 2 else 1)]
  | .u k => .list [sg "a number of a pattern tells no kind", .int (sp (if below then 1 else 0))]
  | .s x => .list [sg "a number is missing", .int (sp (if below then 1 else if x = "-" then 1 else 0))]
noncomputable def belowW (b : Bool) : List Wd := if b then [.s "-"] else []
theorem wholes_core (m : Nat) (hm : m < 300) (below : Bool) (r : Nat) (hr : decide ((r : Int) = 0) = below) (w : Wd) (hw : w = .n m ∨ w = .u m ∨ w = .s "x" ∨ w = .s "-" ∨ w = .s ")") (S0 S1 S2 S3 S4 : O)
    (e1 : ∀ n T, callT (n + 12) 78 [.loc 0, .d (.int 300)] (S0 :: T) = .ok (.d (.int m)) (S1 :: T))
    (e2 : ∀ n T, callT (n + 12) 78 [.loc 0, .d (.int 2)] (S1 :: T) = .ok (.d (.int r)) (S2 :: T))
    (e3 : ∀ n T, callT (n + 17) 82 [.loc 0, .d (.list [wordD (.n m), wordD (.n m), wordD (.u m), sg "x", sg "-", sg ")"])] (S2 :: T) = .ok (.d (wordD w)) (S3 :: T))
    (text : Str) (sp : Nat → Int)
    (e4 : ∀ n T, callT (n + 20) 92 [.loc 0, .d (.list ((belowW below ++ [w]).map wordD))] (S3 :: T) = .ok (.d (.tup [.str text, spotsD sp (belowW below ++ [w]).length])) (S4 :: T))
    (e5 : ∀ n H, callT (n + 66) 90 [.d (.gv 61), .d (.str text), .d (wholeDue m below sp w)] H = .ok (.d (.bool true)) H) (n : Nat) (T : Hp) :
    callT (n + 75) 113 [.loc 0] (S0 :: T) = .ok (.d (.bool true)) (S4 :: T) := by
  revert hm hr hw e1 e2 e3 e4 e5; revert m below r w S0 S1 S2 S3 S4 text sp n T
  refine @(eps13 (P := ?P) (dN, dB, dN, (Wd.n 0), do', do', do', do', do', ds, (default : Nat → Int), dN, dH) rfl ((?m : Pi13 ?P) _ _ _ _ _ _ _ _ _ _ _ _ _))
  intro m below r w S0 S1 S2 S3 S4 text sp n T hm hr hw e1 e2 e3 e4 e5
  have b1 := fun H => b_str m H (by lia)
  have nl := num_len m (by lia)
  have np := num_pos m (by lia)
  have b2 := fun H => b_addSS (Nat.repr m) "u8" H (by lia) (by decide)
  have u2 : "u8".length = 2 := by decide
  have n1 : Nat.repr m ≠ Nat.repr m ++ "u8" := ne_len (by rw [String.length_append]; lia)
  have n2 : Nat.repr m ≠ "x" := num_ne m (by lia) "x" 120 [] (by decide) (by decide)
  have n3 : Nat.repr m ≠ "-" := num_ne m (by lia) "-" 45 [] (by decide) (by decide)
  have n4 : Nat.repr m ≠ ")" := num_ne m (by lia) ")" 41 [] (by decide) (by decide)
  have n5 : "x" ≠ Nat.repr m ++ "u8" := ne_len (by rw [String.length_append, show "x".length = 1 by decide]; lia)
  have n6 : "-" ≠ Nat.repr m ++ "u8" := ne_len (by rw [String.length_append, show "-".length = 1 by decide]; lia)
  have n7 : ")" ≠ Nat.repr m ++ "u8" := ne_len (by rw [String.length_append, show ")".length = 1 by decide]; lia)
  have c1 := fun H => b_addL [] [wordD w] H (by simp)
  have c2 := fun H => b_addL [sg "-"] [wordD w] H (by simp)
  have i0 := fun N H (h : N < 900) => idx_sp' sp N 0 H (by lia) h
  have i1 := fun N H (h : N < 800) => idx_sp' sp (N + 1) 1 H (by lia) (by lia)
  have tn : (Wd.n m).text = Nat.repr m := rfl
  have tu : (Wd.u m).text = Nat.repr m ++ "u8" := rfl
  have ts (x : String) : (Wd.s x).text = x := rfl
  simp only [wordD, tn, tu] at e3 c1 c2
  simp only [wordD, List.map_append, List.map_cons, List.map_nil] at e4
  simp at i0 i1
  obtain ⟨wt, hwt⟩ : ∃ t, w.text = t := ⟨_, rfl⟩
  rw [hwt] at e3 e4 c1 c2
  have pre : ∃ N, blk (n + 74) f113.ks f113.body [(79, .loc 0)] (S0 :: T) = blk (n + 74) f113.ks (f113.body.drop 5) [(79, .loc 0), (62, .d (.bool below)), (96, .d (.int m)), (29, .d (sg wt)), (31, .d (.str text)), (93, .d (spotsD sp N)), (21, .d (.int (b2n below))), (91, .d (.tup [.int (if below then 0 - (m : Int) else m), .int (b2n below + 1)]))] (S4 :: T) ∧ N = (if below then 2 else 1) := by
    cases below
    · simp [belowW] at e4 c1 c2 hr
      exact ⟨1, blk_cut 5 _ _ _ _ _ _ _ (by simp [-BEq.rfl, f113, e1, e2, e3, e4, b1, b2, hr, c1, c2, b2n]), rfl⟩
    · simp [belowW, wordD, ts] at e4 c1 c2 hr
      exact ⟨2, blk_cut 5 _ _ _ _ _ _ _ (by simp [-BEq.rfl, f113, e1, e2, e3, e4, b1, b2, hr, c1, c2, b2n]), rfl⟩
  obtain ⟨N, pre, hN⟩ := pre
  rw [cf _ _ _ _ f113 (by rfl) [(79, .loc 0)] (by rfl), pre]
  clear pre e1 e2 e3 e4
  rcases hw with rfl | rfl | rfl | rfl | rfl
  all_goals
    simp only [tn, tu, ts] at hwt
    subst hwt
    cases below
    · simp [wholeDue] at e5
      simp [-BEq.rfl, f113, hN, b2n, e5, b1, b2, n1, n2, n3, n4, n2.symm, n3.symm, n4.symm, n5, n6, n7, i0, i1, inSeq_c, inSeq_0]
    · simp [wholeDue] at e5
      simp [-BEq.rfl, f113, hN, b2n, e5, b1, b2, n1, n2, n3, n4, n2.symm, n3.symm, n4.symm, n5, n6, n7, i0, i1, inSeq_c, inSeq_0]
theorem call61 : callable tab (.d (.gv 61)) = true := by simp
theorem sm_err (s : String) (hs : okS s = true) (x : Int) (h : -1000000 ≤ x ∧ x ≤ 1000000) : Sm 100000 500 (.list [sg s, .int x]) :=
  (Sms.list (Sm.cons (sm_sg (m := 0) s hs) (Sm.cons (sm_int h.1 h.2) Sms.nil))).mono (by lia) (by lia)
theorem SpOk.b {sp : Nat → Int} (h : SpOk sp) (i : Nat) : -1000000 ≤ sp i ∧ sp i ≤ 1000000 := by have := h i; lia
theorem wholes_heard (m : Nat) (hm : m < 300) (below : Bool) (w : Wd) (hw : w = .n m ∨ w = .u m ∨ w = .s "x" ∨ w = .s "-" ∨ w = .s ")") (text : Str) (sp : Nat → Int) (hsp : SpOk sp)
    (h86 : ∀ n H, callT (n + 18) 86 [.d (.str text)] H = .ok (.loc H.length) (H ++ [wd (rowsOf sp (belowW below ++ [w])) 0 0])) (n : Nat) (H : Hp) :
    callT (n + 66) 90 [.d (.gv 61), .d (.str text), .d (wholeDue m below sp w)] H = .ok (.d (.bool true)) H := by
  revert hm hw hsp h86; revert m below w text sp n H
  refine @(eps7 (P := ?P) (dN, dB, (Wd.n 0), ds, (default : Nat → Int), dN, dH) rfl ((?m : Pi7 ?P) _ _ _ _ _ _ _))
  intro m below w text sp n H hm hw hsp h86
  have hI := is0 sp (belowW below ++ [w])
  have hl := rowsOf_len sp (belowW below ++ [w])
  have hl2 : (rowsOf sp (belowW below ++ [w])).length ≤ 1000 := by rw [hl]; induction below <;> simp [belowW]
  induction below with
  | false =>
    simp only [belowW, List.nil_append, Bool.false_eq_true, if_false] at *
    have h0 := hI.get
    rcases hw with rfl | rfl | rfl | rfl | rfl
    · refine isT 61 text _ H n ((Sms.tup (Sm.cons (sm_int (i := (m : Int)) (by lia) (by lia)) (Sm.cons (sm_int (i := 1) (by lia) (by lia)) Sms.nil))).mono (n' := 100000) (m := 1) (m' := 500) (by lia) (by lia)) (fun n => ?_)
      exact heardO 61 (by decide) call61 text _ H _ 1 0 n h86 (fun n P T => wholeP P T _ 0 0 (n + 40) _ _ _ h0 hl2)
    · refine isT 61 text _ H n (sm_err _ (by decide) _ (hsp.b _)) (fun n => ?_)
      exact heardX 61 (by decide) call61 text _ H _ _ 1 0 n h86 (fun n P T => wholeUP P T _ 0 0 (n + 40) _ _ _ h0 hl2)
    · refine isT 61 text _ H n (sm_err _ (by decide) _ (hsp.b _)) (fun n => ?_)
      exact heardX 61 (by decide) call61 text _ H _ _ 1 0 n h86 (fun n P T => wholeXP P T _ 0 0 (n + 40) _ _ _ _ h0 (by decide) (by decide) (by decide) hl2)
    · refine isT 61 text _ H n (sm_err _ (by decide) _ (hsp.b _)) (fun n => ?_)
      have h1 : (rowsOf sp [Wd.s "-"])[0 + 1]? = some (endD (sp 1)) := rfl
      exact heardX 61 (by decide) call61 text _ H _ _ 1 0 n h86 (fun n P T => wholeXE P T _ 0 0 (n + 40) _ _ _ h0 h1 hl2)
    · refine isT 61 text _ H n (sm_err _ (by decide) _ (hsp.b _)) (fun n => ?_)
      exact heardX 61 (by decide) call61 text _ H _ _ 1 0 n h86 (fun n P T => wholeXP P T _ 0 0 (n + 40) _ _ _ _ h0 (by decide) (by decide) (by decide) hl2)
  | true =>
    simp only [belowW, List.cons_append, List.nil_append, if_true] at *
    have h0 := hI.get
    have h1 := hI.tl.get
    rcases hw with rfl | rfl | rfl | rfl | rfl
    · refine isT 61 text _ H n ((Sms.tup (Sm.cons (sm_int (i := 0 - (m : Int)) (by lia) (by lia)) (Sm.cons (sm_int (i := 2) (by lia) (by lia)) Sms.nil))).mono (n' := 100000) (m := 1) (m' := 500) (by lia) (by lia)) (fun n => ?_)
      exact heardO 61 (by decide) call61 text _ H _ 2 0 n h86 (fun n P T => wholeM P T _ 0 0 (n + 40) _ _ _ _ h0 h1 hl2)
    · refine isT 61 text _ H n (sm_err _ (by decide) _ (hsp.b _)) (fun n => ?_)
      exact heardX 61 (by decide) call61 text _ H _ _ 2 0 n h86 (fun n P T => wholeUM P T _ 0 0 (n + 40) _ _ _ _ h0 h1 hl2)
    · refine isT 61 text _ H n (sm_err _ (by decide) _ (hsp.b _)) (fun n => ?_)
      exact heardX 61 (by decide) call61 text _ H _ _ 2 0 n h86 (fun n P T => wholeXM P T _ 0 0 (n + 40) _ _ _ _ _ h0 h1 (by decide) (by decide) hl2)
    · refine isT 61 text _ H n (sm_err _ (by decide) _ (hsp.b _)) (fun n => ?_)
      exact heardX 61 (by decide) call61 text _ H _ _ 2 0 n h86 (fun n P T => wholeXM P T _ 0 0 (n + 40) _ _ _ _ _ h0 h1 (by decide) (by decide) hl2)
    · refine isT 61 text _ H n (sm_err _ (by decide) _ (hsp.b _)) (fun n => ?_)
      exact heardX 61 (by decide) call61 text _ H _ _ 2 0 n h86 (fun n P T => wholeXM P T _ 0 0 (n + 40) _ _ _ _ _ h0 h1 (by decide) (by decide) hl2)
theorem wholes_right (S : O) (hS : Src S) : ∃ S', Src S' ∧ ∀ n T, callT (n + 75) 113 [.loc 0] (S :: T) = .ok (.d (.bool true)) (S' :: T) := by
  obtain ⟨m, S1, hm, hS1, e1⟩ := draw S hS 300 (by decide) (by decide)
  obtain ⟨r, S2, hr, hS2, e2⟩ := draw S1 hS1 2 (by decide) (by decide)
  obtain ⟨x, S3, hx, hS3, e3⟩ := one S2 hS2 [wordD (.n m), wordD (.n m), wordD (.u m), sg "x", sg "-", sg ")"] (by simp) (by simp)
  obtain ⟨w, rfl, hw⟩ : ∃ w, x = wordD w ∧ (w = .n m ∨ w = .u m ∨ w = .s "x" ∨ w = .s "-" ∨ w = .s ")") := by
    simp at hx
    rcases hx with rfl | rfl | rfl | rfl | rfl
    · exact ⟨_, rfl, by simp⟩
    · exact ⟨_, rfl, by simp⟩
    · exact ⟨.s "x", rfl, by simp⟩
    · exact ⟨.s "-", rfl, by simp⟩
    · exact ⟨.s ")", rfl, by simp⟩
  have hok : WdOk w := by
    rcases hw with rfl | rfl | rfl | rfl | rfl
    · show m < 1000; lia
    · show m < 1000; lia
    · exact lits_ok _ (by decide)
    · exact lits_ok _ (by decide)
    · exact lits_ok _ (by decide)
  obtain ⟨text, sp, S4, hS4, hsp, e4, h86⟩ := written2 S3 hS3 (belowW (decide ((r : Int) = 0)) ++ [w]) (by
    intro y hy
    simp only [List.mem_append, List.mem_singleton] at hy
    rcases hy with hy | rfl
    · unfold belowW at hy
      split at hy
      · simp at hy; subst hy; exact lits_ok _ (by decide)
      · simp at hy
    · exact hok) (by unfold belowW; split <;> simp)
  exact ⟨S4, hS4, fun n T => wholes_core m (by lia) _ r rfl w hw S S1 S2 S3 S4 e1 e2 e3 text sp e4 (fun n H => wholes_heard m (by lia) _ w hw text sp hsp h86 n H) n T⟩
end
end Mine.P
end
section
namespace Mine.P
open PySem
noncomputable section
theorem PK.idx0 (k : PK) (s : Int) (H : Hp) : idxC (.d (k.tree s)) (.d (.int 0)) H = .ok (.d (sg k.tag)) H := by simp only [binC_eq, idxC_eq, bltnC_eq, slC_eq, strC_eq]; induction k <;> rfl
theorem PK.words_ok (k : PK) (hk : k.okay) : ∀ w ∈ k.words, WdOk w := by
  intro w hw
  induction k with
  | wild => simp [PK.words] at hw; subst hw; exact lits_ok _ (by decide)
  | lit k => simp [PK.words] at hw; subst hw; exact hk
  | neg k =>
    simp [PK.words] at hw
    rcases hw with rfl | rfl
    · exact lits_ok _ (by decide)
    · exact hk
  | bool b => simp [PK.words] at hw; subst hw; induction b <;> exact lits_ok _ (by decide)
  | rng k =>
    simp [PK.words] at hw
    rcases hw with rfl | rfl | rfl
    · exact hk
    · exact lits_ok _ (by decide)
    · show 900 < 1000; decide
  | nam b => simp [PK.words] at hw; subst hw; induction b <;> exact lits_ok _ (by decide)
theorem pk_head2 (k : PK) (s : Int) : ∃ w b, k.words = w :: b ∧ ∃ a c t, w.tok s = .tup (sg a :: sg c :: .int s :: t) ∧ lookB a c "mut" = false ∧ lookB a c "(" = false := by
  induction k with
  | nam b => exact ⟨_, _, rfl, _, _, _, rfl, by induction b <;> decide, by induction b <;> decide⟩
  | bool b => exact ⟨_, _, rfl, _, _, _, rfl, by induction b <;> decide, by induction b <;> decide⟩
  | _ => exact ⟨_, _, rfl, _, _, _, rfl, by simp [lookB], by simp [lookB]⟩
noncomputable def shutW (b : Bool) (ws : List Wd) : List Wd := if b then .s "(" :: (ws ++ [.s ")"]) else ws
noncomputable def refW (two mu sh : Bool) (k : PK) : List Wd := .s (ampT two) :: (mutW mu ++ shutW sh k.words)
noncomputable def refX (two mu sh : Bool) (k : PK) (sp : Nat → Int) : D :=
  if k.tag = "range" ∧ sh = false then .list [sg "a range of a reference stands in parentheses", .int (sp (1 + b2n mu))]
  else .tup [refD two mu (sp 0) (k.tree (sp (1 + b2n mu + b2n sh))), .int (refW two mu sh k).length]
theorem call49 : callable tab (.d (.gv 49)) = true := by simp
theorem refs_heard (two mu sh : Bool) (k : PK) (hk : k.okay) (text : Str) (sp : Nat → Int) (hsp : SpOk sp)
    (h86 : ∀ n H, callT (n + 18) 86 [.d (.str text)] H = .ok (.loc H.length) (H ++ [wd (rowsOf sp (refW two mu sh k ++ [Wd.s ","])) 0 0])) (n : Nat) (H : Hp) :
    callT (n + 66) 90 [.d (.gv 49), .d (.str text), .d (refX two mu sh k sp)] H = .ok (.d (.bool true)) H := by
  revert hk hsp h86; revert two mu sh k text sp n H
  refine @(eps7 (P := ?P) (dB, dB, dB, PK.wild, ds, (default : Nat → Int), dN) rfl ((?m : Pi7 ?P) _ _ _ _ _ _ _))
  intro two mu sh k text sp n H hk hsp h86
  have hI := is0 sp (refW two mu sh k ++ [Wd.s ","])
  have hl := rowsOf_len sp (refW two mu sh k ++ [Wd.s ","])
  have lk := k.len_le
  have lm : (mutW mu).length = b2n mu := by induction mu <;> rfl
  have lW : (refW two mu sh k).length = 1 + b2n mu + (shutW sh k.words).length := by simp [refW, lm]; lia
  have lsh : (shutW sh k.words).length ≤ 5 := by induction sh <;> simp [shutW] <;> lia
  have lb : ∀ b, b2n b ≤ 1 := by intro b; induction b <;> simp [b2n]
  have lb1 := lb mu
  have hl2 : (rowsOf sp (refW two mu sh k ++ [Wd.s ","])).length ≤ 1000 := by rw [hl]; simp; lia
  have hI2 : Is (rowsOf sp (refW two mu sh k ++ [Wd.s ","])) sp 0 (.s (ampT two) :: (mutW mu ++ (shutW sh k.words ++ [.s ","]))) := by simpa [refW] using hI
  have hI3 := hI2.tl.r
  rw [lm] at hI3
  generalize rowsOf sp (refW two mu sh k ++ [Wd.s ","]) = rows at *
  have hr : ∀ n P T, callT (n + 55) 49 [.loc P.length] (hp P (wd rows 0 0) T) = if k.tag = "range" ∧ sh = false then .exc (Str.ofString "a range of a reference stands in parentheses") (.int (sp (1 + b2n mu))) (hp P (wd rows (refW two mu sh k).length 0) T)
      else .ok (.d (refD two mu (sp 0) (k.tree (sp (1 + b2n mu + b2n sh))))) (hp P (wd rows (refW two mu sh k).length 0) T) := by
    intro n P T
    rw [lW]
    induction sh with
    | false =>
      simp only [shutW, Bool.false_eq_true, if_false] at *
      obtain ⟨w, b, hw, a, c, t, ht, h1, h2⟩ := pk_head2 k (sp (0 + 1 + b2n mu))
      have h0 := hI3
      rw [hw] at h0
      have h0 := h0.get
      rw [ht] at h0
      have hi : ∀ n, callT (n + 50) 47 [.loc P.length] (hp P (wd rows (0 + 1 + b2n mu) 0) T) = .ok (.d (.tup (sg k.tag :: k.more (sp (0 + 1 + b2n mu))))) (hp P (wd rows (0 + 1 + b2n mu + k.words.length) 0) T) := by
        intro n
        rw [← k.tree_eq]
        exact part2 P T rows _ 0 sp k (n + 21) _ (by simp [Follow]) hI3 hl2 (by decide)
      have h := refP P T rows 0 0 sp n two mu false _ a c k.tag (0 + 1 + b2n mu) _ _ t _ hI2 (by rw [lm]) h0 h1 h2 hi hl2
      rw [← k.tree_eq] at h
      simpa [b2n] using h
    | true =>
      simp only [shutW, if_true] at *
      have hI4 : Is rows sp (0 + 1 + b2n mu) (.s "(" :: (k.words ++ [.s ")"])) := Is.l (b := [.s ","]) (by simpa using hI3)
      have h0 := hI4.get
      simp at h0
      have hi : ∀ n, callT (n + 50) 47 [.loc P.length] (hp P (wd rows (0 + 1 + b2n mu) 0) T) = .ok (.d (.tup (sg k.tag :: k.more (sp (0 + 1 + b2n mu + 1))))) (hp P (wd rows (0 + 1 + b2n mu + 1 + k.words.length + 1) 0) T) := by
        intro n
        rw [← k.tree_eq]
        exact partP P T rows _ 0 sp k n hI4 hl2 (by decide)
      have h := refP P T rows 0 0 sp n two mu true _ _ _ k.tag (0 + 1 + b2n mu) _ _ _ _ hI2 (by rw [lm]) (by simpa using h0) (by decide) (by decide) hi hl2
      rw [← k.tree_eq] at h
      simp at h ⊢
      rw [h]
      simp [b2n, Nat.add_assoc, Nat.add_comm]
      congr 2
      lia
  unfold refX
  by_cases hc : k.tag = "range" ∧ sh = false
  · rw [if_pos hc]
    refine isT 49 text _ H n (sm_err _ (by decide) _ (hsp.b _)) (fun n => ?_)
    refine heardX 49 (by decide) call49 text _ H _ _ (refW two mu sh k).length 0 n h86 (fun n P T => ?_)
    rw [hr n P T, if_pos hc]
  · rw [if_neg hc]
    refine isT 49 text _ H n ?_ (fun n => ?_)
    · have h1 := PK.sm (m := 0) k hk (sp (1 + b2n mu + b2n sh)) (hsp.b _).1 (hsp.b _).2
      have h00 := hsp 0
      have h2 : Sm 1000 3 (refD two mu (sp 0) (k.tree (sp (1 + b2n mu + b2n sh)))) := by
        unfold refD
        cases two
        · exact (Sms.tup (Sm.cons (sm_sg "ref" (by decide)) (Sm.cons (sm_int (i := sp 0 + 1 - 1) (by lia) (by lia)) (Sm.cons sm_bool (Sm.cons h1 Sms.nil))))).mono (by lia) (by lia)
        · exact (Sms.tup (Sm.cons (sm_sg "ref" (by decide)) (Sm.cons (sm_int (hsp.b 0).1 (hsp.b 0).2) (Sm.cons sm_bool (Sm.cons (Sms.tup (Sm.cons (sm_sg "ref" (by decide)) (Sm.cons (sm_int (i := sp 0 + 2 - 1) (by lia) (by lia)) (Sm.cons sm_bool (Sm.cons h1 Sms.nil))))) Sms.nil))))).mono (by lia) (by lia)
      exact (Sms.tup (Sm.cons h2 (Sm.cons (sm_int (i := ((refW two mu sh k).length : Int)) (by lia) (by lia)) Sms.nil))).mono (by lia) (by lia)
    · refine heardO 49 (by decide) call49 text _ H _ (refW two mu sh k).length 0 n h86 (fun n P T => ?_)
      rw [hr n P T, if_neg hc]
theorem b_mulB (a : D) (b : Bool) (H : Hp) : binC .Mult (.d (.list [a])) (.d (.int (b2n b))) H = .ok (.d (.list (if b then [a] else []))) H := by simp only [binC_eq, idxC_eq, bltnC_eq, slC_eq, strC_eq]; induction b <;> rfl
set_option maxHeartbeats 4000000 in
theorem refs_core (two mu sh : Bool) (k : PK) (text : Str) (sp : Nat → Int) (S0 S1 S2 S3 S4 S5 : O) (r1 r2 : Nat) (h1 : decide ((r1 : Int) = 0) = mu) (h2 : decide ((r2 : Int) = 0) = sh)
    (e1 : ∀ n T, callT (n + 17) 82 [.loc 0, .d (.list [sg "&", sg "&&"])] (S0 :: T) = .ok (.d (sg (ampT two))) (S1 :: T))
    (e2 : ∀ n T, callT (n + 12) 78 [.loc 0, .d (.int 2)] (S1 :: T) = .ok (.d (.int r1)) (S2 :: T))
    (e3 : ∀ n T, callT (n + 12) 78 [.loc 0, .d (.int 2)] (S2 :: T) = .ok (.d (.int r2)) (S3 :: T))
    (e4 : ∀ n T (s : Int), callT (n + 21) 94 [.loc 0, .d (.int s)] (S3 :: T) = .ok (.d (.tup [.list (k.words.map wordD), k.tree s])) (S4 :: T))
    (e5 : ∀ n T, callT (n + 20) 92 [.loc 0, .d (.list ((refW two mu sh k ++ [Wd.s ","]).map wordD))] (S4 :: T) = .ok (.d (.tup [.str text, spotsD sp (refW two mu sh k ++ [Wd.s ","]).length])) (S5 :: T))
    (e6 : ∀ n H, callT (n + 66) 90 [.d (.gv 49), .d (.str text), .d (refX two mu sh k sp)] H = .ok (.d (.bool true)) H) (n : Nat) (T : Hp) :
    callT (n + 75) 109 [.loc 0] (S0 :: T) = .ok (.d (.bool true)) (S5 :: T) := by
  revert h1 h2 e1 e2 e3 e4 e5 e6; revert two mu sh k text sp S0 S1 S2 S3 S4 S5 r1 r2 n T
  refine @(eps16 (P := ?P) (dB, dB, dB, PK.wild, ds, (default : Nat → Int), do', do', do', do', do', do', dN, dN, dN, dH) rfl ((?m : Pi16 ?P) _ _ _ _ _ _ _ _ _ _ _ _ _ _ _ _))
  intro two mu sh k text sp S0 S1 S2 S3 S4 S5 r1 r2 n T h1 h2 e1 e2 e3 e4 e5 e6
  have lk := k.len_le
  have lN : (refW two mu sh k ++ [Wd.s ","]).length ≤ 12 := by induction two <;> induction mu <;> induction sh <;> simp [refW, mutW, shutW] <;> lia
  have s1 := fun i n H (hi : i ≤ (refW two mu sh k ++ [Wd.s ","]).length) => spot_pk sp (refW two mu sh k ++ [Wd.s ","]).length (by lia) k i hi n H
  have i1 := fun i H (hi : i ≤ (refW two mu sh k ++ [Wd.s ","]).length) => idx_sp' sp (refW two mu sh k ++ [Wd.s ","]).length i H hi (by lia)
  have la := fun H => len_s (ampT two) H (by induction two <;> decide)
  have z1 : "&".length = 1 := by decide
  have z2 : "&&".length = 2 := by decide
  have i2 := i1 0
  have i3 := i1 (1 + b2n mu)
  have s2 := s1 (1 + b2n mu + b2n sh)
  have ek : kind (ampT two) = kind (ampT two) := rfl
  obtain ⟨N, hN⟩ : ∃ N, (refW two mu sh k ++ [Wd.s ","]).length = N := ⟨_, rfl⟩
  rw [hN] at i2 i3 s2 e5
  have i2 := fun H => i2 H (by lia)
  have i3 := fun H => i3 H (by rw [← hN]; induction two <;> induction mu <;> induction sh <;> simp [refW, mutW, shutW, b2n] <;> lia)
  have s2 := fun n H => s2 n H (by rw [← hN]; induction two <;> induction mu <;> induction sh <;> simp [refW, mutW, shutW, b2n] <;> lia)
  have pre : blk (n + 74) f109.ks f109.body [(79, .loc 0)] (S0 :: T) = blk (n + 74) f109.ks (f109.body.drop 7) [(79, .loc 0), (110, .d (.bool sh)), (56, .d (.bool mu)), (55, .d (sg (ampT two))), (36, .d (.list ((refW two mu sh k).map wordD))), (58, .d (.int ((1 + b2n mu : Nat) : Int))), (102, .d (.list (k.words.map wordD))), (103, .d (k.tree (ix (1 + b2n mu + b2n sh)))), (31, .d (.str text)), (93, .d (spotsD sp N)),
      (91, .d (.tup [.tup [sg "ref", .int (sp 0 + (ampT two).length - 1), .bool mu, k.tree (sp (1 + b2n mu + b2n sh))], .int (refW two mu sh k).length]))] (S5 :: T) := by
    refine blk_cut 7 _ _ _ _ _ _ _ ?_
    clear hN i1 s1 e6 i3
    induction mu <;> cases sh
    all_goals
      simp [refW, mutW, shutW, ix, b2n, wordD, Wd.text] at i2 s2 e4 e5 ⊢
      simp at h1 h2
      simp (disch := first | done | lia | (simp; done) | (simp; lia)) [-BEq.rfl, f109, e1, e2, e3, h1, h2, e4, e5, s2, i2, la, b_addL, len_L, b2n]
  rw [cf _ _ _ _ f109 (by rfl) [(79, .loc 0)] (by rfl), pre]
  clear pre e1 e2 e3 e4 e5 s1 s2 i1 h1 h2 la hN
  by_cases hr : k.tag = "range"
  all_goals
    induction two <;> cases sh
    all_goals
      simp [ampT, ix, refX, refD, z1, z2, hr] at i2 i3 e6
      simp [-BEq.rfl, f109, e6, i2, i3, PK.idx0, hr, ampT, z1, z2, ix]
theorem refs_right (S : O) (hS : Src S) : ∃ S', Src S' ∧ ∀ n T, callT (n + 75) 109 [.loc 0] (S :: T) = .ok (.d (.bool true)) (S' :: T) := by
  obtain ⟨x, S1, hx, hS1, e1⟩ := one S hS [sg "&", sg "&&"] (by simp) (by simp)
  obtain ⟨two, rfl⟩ : ∃ two, x = sg (ampT two) := by
    simp at hx
    rcases hx with rfl | rfl
    · exact ⟨false, rfl⟩
    · exact ⟨true, rfl⟩
  obtain ⟨r1, S2, hr1, hS2, e2⟩ := draw S1 hS1 2 (by decide) (by decide)
  obtain ⟨r2, S3, hr2, hS3, e3⟩ := draw S2 hS2 2 (by decide) (by decide)
  obtain ⟨k, S4, hk, hS4, e4⟩ := part_gen S3 hS3
  have lk := k.len_le
  obtain ⟨text, sp, S5, hS5, hsp, e5, h86⟩ := written2 S4 hS4 (refW two (decide ((r1 : Int) = 0)) (decide ((r2 : Int) = 0)) k ++ [Wd.s ","]) (by
    intro y hy
    simp only [refW, List.mem_append, List.mem_cons, List.not_mem_nil, or_false] at hy
    rcases hy with (rfl | hy | hy) | rfl
    · induction two <;> exact lits_ok _ (by decide)
    · unfold mutW at hy
      split at hy
      · simp at hy; subst hy; exact lits_ok _ (by decide)
      · simp at hy
    · unfold shutW at hy
      split at hy
      · simp at hy
        rcases hy with rfl | hy | rfl
        · exact lits_ok _ (by decide)
        · exact k.words_ok hk y hy
        · exact lits_ok _ (by decide)
      · exact k.words_ok hk y hy
    · exact lits_ok _ (by decide)) (by
      generalize decide ((r1 : Int) = 0) = m1
      generalize decide ((r2 : Int) = 0) = m2
      induction m1 <;> induction m2 <;> simp [refW, mutW, shutW] <;> lia)
  exact ⟨S5, hS5, fun n T => refs_core two _ _ k text sp S S1 S2 S3 S4 S5 r1 r2 rfl rfl e1 e2 e3 e4 e5 (fun n H => refs_heard two _ _ k hk text sp hsp h86 n H) n T⟩
end
end Mine.P
end
section
namespace Mine.P
open PySem
noncomputable section
theorem lack_some (xs : Its) : ∀ q l, Seps true xs → lackOf q xs (some l) = some l := by
  induction xs with
  | nil => intro q l _; rfl
  | cons x r ih =>
    intro q l h
    obtain ⟨h1, h2, h3, h4, h5⟩ := h
    have hx : x.2 ≠ 2 := fun e => by have := (h3 e).2; simp at this
    simp only [lackOf, if_neg hx]
    exact ih _ l (by simpa using h5)
noncomputable def RowG (q : Nat) (b : Bool) (xs : Its) : Prop := ∃ (its : List PT) (fin : Option PT), itW xs = cw its ++ finW fin ∧ (∀ sp, itT sp q xs = cwT sp q its ++ finT sp (q + (cw its).length) fin) ∧ lackOf q xs none = none ∧ lastOf b xs = (if xs = [] then b else fin.isNone) ∧ its.length ≤ xs.length
noncomputable def RowB (q : Nat) (xs : Its) : Prop := ∃ (its : List PT) (x : PT) (tail : List Wd), itW xs = cw its ++ (x.words ++ (.s "c" :: tail)) ∧ lackOf q xs none = some (q + (cw its).length + x.words.length) ∧ its.length ≤ xs.length
theorem decode (xs : Its) : ∀ (q : Nat) (b : Bool), Seps false xs → RowG q b xs ∨ RowB q xs := by
  induction xs with
  | nil => intro q b _; exact Or.inl ⟨[], none, rfl, fun sp => rfl, rfl, rfl, Nat.le_refl _⟩
  | cons x r ih =>
    intro q b h
    obtain ⟨h1, h2, h3, h4, h5⟩ := h
    obtain ⟨y, c⟩ := x
    match c, h2, h3, h4, h5 with
    | 0, h2, h3, h4, h5 =>
      have hr := h4 rfl
      subst hr
      exact Or.inl ⟨[], some y, by simp [itW, sepW, cw, finW], fun sp => by simp [itT, cwT, finT, cw], rfl, by simp [lastOf], by simp⟩
    | 1, h2, h3, h4, h5 =>
      rcases ih (q + (y.words ++ sepW 1).length) true (by simpa using h5) with ⟨its, fin, e1, e2, e3, e4, e5⟩ | ⟨its, z, tail, e1, e2, e3⟩
      · refine Or.inl ⟨y :: its, fin, by simp [itW, sepW, cw, e1], fun sp => ?_, ?_, ?_, by simp; lia⟩
        · simp only [itT, cwT, e2 sp, List.cons_append]
          simp [sepW, cw, Nat.add_assoc, Nat.add_comm, Nat.add_left_comm]
        · simp only [lackOf]; exact e3
        · simp only [lastOf]
          have e4' : lastOf true r = (if r = [] then true else fin.isNone) := e4
          show lastOf true r = _
          rw [e4']
          by_cases hr : r = []
          · subst hr
            simp
            simp [itW] at e1
            induction fin with
            | none => rfl
            | some f =>
              have := e1.2
              obtain ⟨w, bb, hw, _⟩ := pt_head f 0
              simp [finW, hw] at this
          · simp [hr]
      · refine Or.inr ⟨y :: its, z, tail, by simp [itW, sepW, cw, e1], ?_, by simp; lia⟩
        simp only [lackOf]
        refine e2.trans ?_
        simp [sepW, cw]; lia
    | 2, h2, h3, h4, h5 =>
      refine Or.inr ⟨[], y, .s "," :: itW r, by simp [itW, sepW, cw], ?_, by simp⟩
      simp only [lackOf]
      refine (lack_some r _ _ (by simpa using h5)).trans ?_
      simp [cw]
    | c + 3, h2, h3, h4, h5 => exact absurd h2 (by simp)
noncomputable def rowW (xs : Its) : List Wd := .s "(" :: (itW xs ++ [.s ")"])
noncomputable def lackX (sp : Nat → Int) (l : Option Nat) (x : D) : D := match l with
  | none => x
  | some i => .list [sg ") is missing", .int (sp i)]
noncomputable def parT (sp : Nat → Int) (call : Bool) (xs : Its) : D :=
  if call then .tup (itT sp 1 xs) else match xs, lastOf false xs with
  | [x], false => x.1.tree sp 1
  | _, _ => .tup [sg "tuple", .int (sp 0), .tup (itT sp 1 xs)]
noncomputable def parX (sp : Nat → Int) (call : Bool) (xs : Its) : D := lackX sp (lackOf 1 xs none) (.tup [parT sp call xs, .int (rowW xs).length])
noncomputable def rdr (call : Bool) : Nat := if call then 68 else 50
theorem lack_le (q : Nat) (xs : Its) (h : Seps false xs) (l : Nat) (hl : lackOf q xs none = some l) : l ≤ q + (itW xs).length := by
  rcases decode xs q false h with ⟨_, _, _, _, e, _, _⟩ | ⟨its, x, tail, e1, e2, _⟩
  · rw [e] at hl; simp at hl
  · rw [e2] at hl
    simp at hl
    rw [e1]
    simp; lia
theorem its_okay (xs : Its) : ∀ lk, Seps lk xs → ∀ y ∈ xs, y.1.okay := by
  induction xs with
  | nil => intro lk _ y hy; simp at hy
  | cons x r ih =>
    intro lk h y hy
    obtain ⟨h1, h2, h3, h4, h5⟩ := h
    simp at hy
    rcases hy with rfl | hy
    · exact h1
    · exact ih _ h5 y hy
set_option maxHeartbeats 1000000 in
theorem parens_core (call : Bool) (xs : Its) (hx : xs.length ≤ 3) (hseps : Seps false xs) (text : Str) (sp : Nat → Int) (S0 S1 S2 : O)
    (e1 : ∀ n T (p : Nat), callT (n + 32) 104 [.loc 0, .d (.int p)] (S0 :: T) = .ok (.d (.tup [.list ((rowW xs).map wordD), .list (itT ix (p + 1) xs), .bool (lastOf false xs), lackD (lackOf (p + 1) xs none)])) (S1 :: T))
    (e5 : ∀ n T, callT (n + 20) 92 [.loc 0, .d (.list ((rowW xs ++ [Wd.s "|"]).map wordD))] (S1 :: T) = .ok (.d (.tup [.str text, spotsD sp (rowW xs ++ [Wd.s "|"]).length])) (S2 :: T))
    (e6 : ∀ n H, callT (n + 66) 90 [.d (.gv (rdr call)), .d (.str text), .d (parX sp call xs)] H = .ok (.d (.bool true)) H) (n : Nat) (T : Hp) :
    callT (n + 75) 111 [.loc 0, .d (.bool call)] (S0 :: T) = .ok (.d (.bool true)) (S2 :: T) := by
  revert hx hseps e1 e5 e6; revert call xs text sp S0 S1 S2 n T
  refine @(eps7 (P := ?P) (dB, (default : Mine.P.Its), ds, (default : Nat → Int), do', do', do') rfl ((?m : Pi7 ?P) _ _ _ _ _ _ _))
  intro call xs text sp S0 S1 S2 n T hx hseps e1 e5 e6
  have lw := itW_len xs
  have lr : (rowW xs).length = (itW xs).length + 2 := by simp [rowW]
  have hN : (rowW xs ++ [Wd.s "|"]).length < 900 := by simp [lr]; lia
  have e1' := fun n T => e1 n T 0
  have s1 := fun n loc H hf => spot_comp sp (rowW xs ++ [Wd.s "|"]).length hN 103 (Or.inr rfl) xs 1 (by simp [lr]; lia) (by lia) n loc H hf
  have i1 := fun i H (hi : i ≤ (rowW xs ++ [Wd.s "|"]).length) => idx_sp' sp (rowW xs ++ [Wd.s "|"]).length i H hi (by lia)
  have i0 := fun H => i1 0 H (by lia)
  have t1 := fun H => b_tuple (itT sp 1 xs) H (by rw [itT_len]; lia)
  have l1 := fun H => len_L ((rowW xs).map wordD) H (by simp [lr]; lia)
  have a1 := fun H => b_addL ((rowW xs).map wordD) [wordD (.s "|")] H (by simp [lr]; lia)
  have lT : ∀ H, bltnC 0 [.d (.tup (itT sp 1 xs))] H = .ok (.d (.int xs.length)) H := by
    intro H
    simp only [binC_eq, idxC_eq, bltnC_eq, slC_eq, strC_eq]
    show R.guard (decide ((itT sp 1 xs).length ≤ line)) (retI (itT sp 1 xs).length H) = _
    have e2 : decide ((itT sp 1 xs).length ≤ line) = true := by
      rw [itT_len]; unfold line
      simp only [decide_eq_true_eq]; lia
    rw [e2, itT_len]; rfl
  simp [wordD, Wd.text] at e1' e5 a1 l1 i0
  have pre := blk_cut 4 (n + 74) f111.ks f111.body [(79, .loc 0), (112, .d (.bool call))] [(79, .loc 0), (112, .d (.bool call)), (36, .d (.list ((rowW xs).map wordD))), (100, .d (.list (itT ix 1 xs))), (105, .d (.bool (lastOf false xs))), (106, .d (lackD (lackOf 1 xs none))), (31, .d (.str text)), (93, .d (spotsD sp ((rowW xs).length + 1))), (38, .d (.tup (itT sp 1 xs))), (91, .d (.tup [.tup (itT sp 1 xs), .int (rowW xs).length]))] (S0 :: T) (S2 :: T)
    (by simp [-BEq.rfl, f111, e1', e5, e_comp, compOk, freeOf, s1, t1, l1, a1, wordD, Wd.text])
  rw [cf _ _ _ _ f111 (by rfl) [(79, .loc 0), (112, .d (.bool call))] (by rfl), pre]
  clear pre e1 e5 e1' s1 a1 t1
  cases hl : lackOf 1 xs none with
  | none =>
    induction call with
    | true =>
      simp [rdr, parX, parT, hl, lackX] at e6
      simp [-BEq.rfl, f111, lackD, e6]
    | false =>
      rcases xs with _ | ⟨x, _ | ⟨y, r⟩⟩
      · simp [rdr, parX, parT, hl, lackX, lastOf, itT] at e6 lT
        simp [-BEq.rfl, f111, lackD, l1, lT, i0, e6, itT]
      · cases hb : lastOf false [x] with
        | true =>
          simp [rdr, parX, parT, hl, hb, lackX, itT] at e6 lT
          simp [-BEq.rfl, f111, lackD, l1, lT, i0, e6, itT]
        | false =>
          simp [rdr, parX, parT, hl, hb, lackX, itT] at e6 lT
          simp [-BEq.rfl, f111, lackD, l1, lT, i0, e6, itT]
      · have hn : ¬ ((r.length : Int) + 1 + 1 = 1) := by lia
        simp [rdr, parX, parT, hl, lackX] at e6 lT
        simp [-BEq.rfl, f111, lackD, l1, lT, i0, e6, hn]
  | some l =>
    have hle := lack_le 1 xs hseps l hl
    have i2 := fun H => i1 l H (by simp [lr]; lia)
    simp [rdr, parX, hl, lackX] at e6 i2
    induction call with
    | true =>
      simp at e6
      simp [-BEq.rfl, f111, lackD, i2, e6]
    | false =>
      simp at e6
      rcases xs with _ | ⟨x, _ | ⟨y, r⟩⟩
      · simp [lackOf] at hl
      · cases hb : lastOf false [x] with
        | true =>
          simp [itT] at lT
          simp [-BEq.rfl, f111, lackD, l1, lT, i0, i2, e6, itT]
        | false =>
          simp [itT] at lT
          simp [-BEq.rfl, f111, lackD, l1, lT, i0, i2, e6, itT]
      · have hn : ¬ ((r.length : Int) + 1 + 1 = 1) := by lia
        simp at lT
        simp [-BEq.rfl, f111, lackD, l1, lT, i0, i2, e6, hn]
end
end Mine.P
end
section
namespace Mine.P
open PySem
noncomputable section
theorem PT.words_ok (x : PT) (hx : x.okay) : ∀ w ∈ x.words, WdOk w := by
  intro w hw
  obtain ⟨a, k, o⟩ := x
  simp only [PT.words, List.mem_append] at hw
  rcases hw with (hw | hw) | hw
  · split at hw
    · simp at hw; subst hw; exact lits_ok _ (by decide)
    · simp at hw
  · exact k.words_ok hx.1 w hw
  · induction o with
    | none => simp at hw
    | some k2 =>
      simp at hw
      rcases hw with rfl | hw
      · exact lits_ok _ (by decide)
      · exact k2.words_ok (hx.2 k2 rfl) w hw
theorem itW_ok (xs : Its) (h : ∀ y ∈ xs, y.1.okay) : ∀ w ∈ itW xs, WdOk w := by
  induction xs with
  | nil => intro w hw; simp [itW] at hw
  | cons x r ih =>
    intro w hw
    simp only [itW, List.mem_append] at hw
    rcases hw with (hw | hw) | hw
    · exact x.1.words_ok (h x (by simp)) w hw
    · unfold sepW at hw
      split at hw
      · simp at hw
      · split at hw
        · simp at hw; subst hw; exact lits_ok _ (by decide)
        · simp at hw
          rcases hw with rfl | rfl <;> exact lits_ok _ (by decide)
    · exact ih (fun y hy => h y (List.mem_cons_of_mem _ hy)) w hw
theorem rowW_ok (xs : Its) (h : ∀ y ∈ xs, y.1.okay) : ∀ w ∈ rowW xs, WdOk w := by
  intro w hw
  simp only [rowW, List.mem_cons, List.mem_append, List.not_mem_nil, or_false] at hw
  rcases hw with rfl | hw | rfl
  · exact lits_ok _ (by decide)
  · exact itW_ok xs h w hw
  · exact lits_ok _ (by decide)
theorem call50 : callable tab (.d (.gv 50)) = true := by simp
theorem call68 : callable tab (.d (.gv 68)) = true := by simp
theorem finT_len (sp : Nat → Int) (p : Nat) (fin : Option PT) : (finT sp p fin).length = if fin.isSome then 1 else 0 := by induction fin <;> rfl
theorem parT_good (sp : Nat → Int) (xs : Its) (its : List PT) (fin : Option PT) (e2 : itT sp 1 xs = cwT sp 1 its ++ finT sp (1 + (cw its).length) fin) (e4 : lastOf false xs = (if xs = [] then false else fin.isNone)) :
    parT sp false xs = parenD sp 0 its fin := by
  revert e2 e4; revert sp xs its fin
  refine @(eps4 (P := ?P) ((default : Nat → Int), (default : Mine.P.Its), (default : List Mine.P.PT), (default : Option Mine.P.PT)) rfl ((?m : Pi4 ?P) _ _ _ _))
  intro sp xs its fin e2 e4
  have hl : xs.length = its.length + if fin.isSome then 1 else 0 := by
    have := congrArg List.length e2
    rw [itT_len, List.length_append, cwT_len, finT_len] at this
    exact this
  unfold parT
  simp only [Bool.false_eq_true, if_false]
  cases its with
  | nil =>
    induction fin with
    | none =>
      simp at hl
      subst hl
      simp [parenD, itT, cwT, finT]
    | some f =>
      obtain ⟨x, rfl⟩ : ∃ x, xs = [x] := by
        match xs, hl with
        | [x], _ => exact ⟨x, rfl⟩
        | [], hl => simp at hl
        | _ :: _ :: _, hl => simp at hl
      simp [itT, cwT, finT, cw] at e2
      simp at e4
      simp [e4, parenD, e2]
  | cons y its =>
    match xs, hl, e2, e4 with
    | [], hl, e2, e4 => simp at hl; lia
    | [x], hl, e2, e4 =>
      induction fin with
      | some f => simp at hl
      | none =>
        simp at e4
        simp [e4, parenD, e2]
    | x :: x2 :: r, hl, e2, e4 =>
      simp [parenD, e2]
theorem parens_heard (call : Bool) (xs : Its) (hx : xs.length ≤ 3) (hseps : Seps false xs) (text : Str) (sp : Nat → Int) (hsp : SpOk sp)
    (h86 : ∀ n H, callT (n + 18) 86 [.d (.str text)] H = .ok (.loc H.length) (H ++ [wd (rowsOf sp (rowW xs ++ [Wd.s "|"])) 0 0])) (n : Nat) (H : Hp) :
    callT (n + 66) 90 [.d (.gv (rdr call)), .d (.str text), .d (parX sp call xs)] H = .ok (.d (.bool true)) H := by
  revert hx hseps hsp h86; revert call xs text sp n H
  refine @(eps4 (P := ?P) (dB, (default : Mine.P.Its), ds, (default : Nat → Int)) rfl ((?m : Pi4 ?P) _ _ _ _))
  intro call xs text sp n H hx hseps hsp h86
  have hok := its_okay xs false hseps
  have lw := itW_len xs
  have lr : (rowW xs).length = (itW xs).length + 2 := by simp [rowW]
  have hI := is0 sp (rowW xs ++ [Wd.s "|"])
  have hl2 : (rowsOf sp (rowW xs ++ [Wd.s "|"])).length ≤ 1000 := by rw [rowsOf_len]; simp [lr]; lia
  generalize rowsOf sp (rowW xs ++ [Wd.s "|"]) = rows at *
  have em : Str.ofString ")" ++ Str.ofString " is missing" = Str.ofString ") is missing" := ofS_app _ _
  rcases decode xs 1 false hseps with ⟨its, fin, e1, e2, e3, e4, e5⟩ | ⟨its, x, tail, e1, e2, e3⟩
  · have hI2 : Is rows sp 0 (.s "(" :: (cw its ++ (finW fin ++ [.s ")"]))) := Is.l (b := [Wd.s "|"]) (by simpa [rowW, e1] using hI)
    have hp : 0 + 1 + (cw its).length + (finW fin).length + 1 = (rowW xs).length := by rw [lr, e1]; simp; lia
    simp only [parX, e3, lackX]
    have hT := itT_sm (m := 0) sp hsp xs hok 1
    refine isT _ text _ H n ?_ (fun n => ?_)
    · have h1 : Sm 2500 5 (parT sp call xs) := by
        have h2 : Sm 2200 4 (.tup (itT sp 1 xs)) := (Sms.tup hT).mono (by lia) (by lia)
        unfold parT
        split
        · exact h2.mono (by lia) (by lia)
        · split
          · rename_i x _
            exact (PT.sm (m := 1) x.1 (hok x (by simp)) sp hsp 1).mono (by lia) (by lia)
          · exact (Sms.tup (Sm.cons (sm_sg (m := 4) "tuple" (by decide)) (Sm.cons (sm_int (hsp.b 0).1 (hsp.b 0).2) (Sm.cons h2 Sms.nil)))).mono (by lia) (by lia)
      exact (Sms.tup (Sm.cons h1 (Sm.cons (sm_int (i := ((rowW xs).length : Int)) (by lia) (by lia)) Sms.nil))).mono (by lia) (by lia)
    · induction call with
      | true =>
        refine heardO 68 (by decide) call68 text _ H _ (rowW xs).length 0 n h86 (fun n P T => ?_)
        have h := places P T rows 0 sp (n + 14) 0 its fin hI2 hl2 (by decide) (by lia)
        rw [hp] at h
        simp only [parT, if_true, e2 sp]
        exact h
      | false =>
        refine heardO 50 (by decide) call50 text _ H _ (rowW xs).length 0 n h86 (fun n P T => ?_)
        have h := paren P T rows 0 sp (n + 14) 0 its fin hI2 hl2 (by decide) (by lia)
        rw [hp] at h
        rw [parT_good sp xs its fin (e2 sp) e4]
        exact h
  · have hI2 : Is rows sp 0 (.s "(" :: (cw its ++ (x.words ++ [.s "c"]))) := Is.l (b := tail ++ [Wd.s ")", Wd.s "|"]) (by simpa [rowW, e1] using hI)
    simp only [parX, e2, lackX]
    refine isT _ text _ H n (sm_err _ (by decide) _ (hsp.b _)) (fun n => ?_)
    induction call with
    | true =>
      refine heardX 68 (by decide) call68 text _ H _ _ (0 + 1 + (cw its).length + x.words.length) 0 n h86 (fun n P T => ?_)
      rw [← em]
      exact placesX P T rows 0 sp (n + 14) 0 its x hI2 hl2 (by decide) (by lia)
    | false =>
      refine heardX 50 (by decide) call50 text _ H _ _ (0 + 1 + (cw its).length + x.words.length) 0 n h86 (fun n P T => ?_)
      rw [← em]
      exact parenX P T rows 0 sp (n + 14) 0 its x hI2 hl2 (by decide) (by lia)
theorem parens_right (call : Bool) (S : O) (hS : Src S) : ∃ S', Src S' ∧ ∀ n T, callT (n + 75) 111 [.loc 0, .d (.bool call)] (S :: T) = .ok (.d (.bool true)) (S' :: T) := by
  obtain ⟨xs, S1, hx, hseps, hS1, e1⟩ := row_gen S hS
  have hok := its_okay xs false hseps
  have lw := itW_len xs
  have lr : (rowW xs).length = (itW xs).length + 2 := by simp [rowW]
  obtain ⟨text, sp, S2, hS2, hsp, e5, h86⟩ := written2 S1 hS1 (rowW xs ++ [Wd.s "|"]) (by
    intro y hy
    simp only [List.mem_append, List.mem_singleton] at hy
    rcases hy with hy | rfl
    · exact rowW_ok xs hok y hy
    · exact lits_ok _ (by decide)) (by simp [lr]; lia)
  exact ⟨S2, hS2, fun n T => parens_core call xs hx hseps text sp S S1 S2 e1 e5 (fun n H => parens_heard call xs hx hseps text sp hsp h86 n H) n T⟩
end
end Mine.P
end
section
namespace Mine.P
open PySem
noncomputable section
noncomputable def PaK.segs : PaK → List D
  | .one => [seg "P"]
  | .two => [seg "P", seg "Q"]
  | .slf => [seg "Self", seg "A"]
theorem PaK.tree_segs (pa : PaK) : pa.tree = .tup pa.segs := by induction pa <;> rfl
theorem PaK.len_le (pa : PaK) : pa.words.length ≤ 3 ∧ 0 < pa.words.length := by induction pa <;> simp [PaK.words]
theorem PaK.words_ok (pa : PaK) : ∀ w ∈ pa.words, WdOk w := by
  intro w hw
  induction pa <;> simp [PaK.words] at hw
  · subst hw; exact lits_ok _ (by decide)
  · rcases hw with rfl | rfl | rfl <;> exact lits_ok _ (by decide)
  · rcases hw with rfl | rfl | rfl <;> exact lits_ok _ (by decide)
noncomputable def gseg (x : D) : Option D := match x with
  | .str s => if s = Str.ofString "::" then none else some (.tup [.str s, .tup [], .tup []])
  | _ => none
theorem gseg_s (x : String) : gseg (sg x) = if x = "::" then none else some (seg x) := by
  unfold gseg
  simp only [ofS_inj]
  rfl
theorem path_comp (pa : PaK) (n : Nat) (loc : Loc) (H : Hp) (hf : freeOf [(41, .local), (29, .local)] loc = []) :
    compV (n + 4) [(41, .local), (29, .local)] loc (.tup [.nm 29, .tup [], .tup []]) (.one 29) [.cmp .NotEq (.nm 29) (.str (Str.ofString "::"))] (.d (.list (pa.words.map wordD))) H = .ok (.d (.list pa.segs)) H := by
  have e := compV_ok (n + 4) [(41, .local), (29, .local)] loc (.tup [.nm 29, .tup [], .tup []]) (.one 29) [.cmp .NotEq (.nm 29) (.str (Str.ofString "::"))] (.d (.list (pa.words.map wordD))) H (pa.words.map wordD)
    gseg (fun acc i => rfl) (by have := pa.len_le; simp; lia)
    (fun x hx acc => by
      simp at hx
      obtain ⟨w, hw, rfl⟩ := hx
      obtain ⟨s, rfl⟩ : ∃ s, w = .s s := by
        induction pa <;> simp [PaK.words] at hw
        · exact ⟨_, hw⟩
        · rcases hw with h | h | h <;> exact ⟨_, h⟩
        · rcases hw with h | h | h <;> exact ⟨_, h⟩
      simp only [wordD, Wd.text, gseg_s, compF, tgVals, tgNames, hf]
      by_cases hh : s = "::" <;> simp [-BEq.rfl, compC, hh, seg])
  rw [e]
  induction pa <;> simp [PaK.words, PaK.segs, wordD, Wd.text, gseg_s]
noncomputable def varX (sp : Nat → Int) (pa : PaK) (way : Nat) (x : D) (n : Nat) : D := x
theorem call54 : callable tab (.d (.gv 54)) = true := by simp
theorem PaK.sm (pa : PaK) : Sm 600 5 pa.tree := by
  have h (x : String) (hx : okS x = true) : Sm 100 2 (seg x) := (Sms.tup (Sm.cons (sm_sg (m := 1) x hx) (Sm.cons (Sms.tup (Sms.nil (m := 0))) (Sm.cons (Sms.tup (Sms.nil (m := 0))) Sms.nil)))).mono (by lia) (by lia)
  induction pa with
  | one => exact (Sms.tup (Sm.cons (h "P" (by decide)) Sms.nil)).mono (by lia) (by lia)
  | two => exact (Sms.tup (Sm.cons (h "P" (by decide)) (Sm.cons (h "Q" (by decide)) Sms.nil))).mono (by lia) (by lia)
  | slf => exact (Sms.tup (Sm.cons (h "Self" (by decide)) (Sm.cons (h "A" (by decide)) Sms.nil))).mono (by lia) (by lia)
noncomputable def v0X (sp : Nat → Int) (pa : PaK) : D := .tup [.tup [sg "variant", .int (sp 0), pa.tree, .tup []], .int pa.words.length]
theorem v0_heard (pa : PaK) (text : Str) (sp : Nat → Int) (hsp : SpOk sp)
    (h86 : ∀ n H, callT (n + 18) 86 [.d (.str text)] H = .ok (.loc H.length) (H ++ [wd (rowsOf sp (pa.words ++ [Wd.s ")"])) 0 0])) (n : Nat) (H : Hp) :
    callT (n + 66) 90 [.d (.gv 54), .d (.str text), .d (v0X sp pa)] H = .ok (.d (.bool true)) H := by
  have lp := pa.len_le
  have hI := is0 sp (pa.words ++ [Wd.s ")"])
  have hl2 : (rowsOf sp (pa.words ++ [Wd.s ")"])).length ≤ 1000 := by rw [rowsOf_len]; simp; lia
  refine isT _ text _ H n ?_ (fun n => ?_)
  · have h1 : Sm 1000 6 (.tup [sg "variant", .int (sp 0), pa.tree, .tup []]) := (Sms.tup (Sm.cons (sm_sg (m := 5) "variant" (by decide)) (Sm.cons (sm_int (hsp.b 0).1 (hsp.b 0).2) (Sm.cons pa.sm (Sm.cons ((Sms.tup (Sms.nil (m := 0))).mono (Nat.le_refl _) (by lia)) Sms.nil))))).mono (by lia) (by lia)
    exact (Sms.tup (Sm.cons h1 (Sm.cons (sm_int (i := (pa.words.length : Int)) (by lia) (by lia)) Sms.nil))).mono (by lia) (by lia)
  · refine heardO 54 (by decide) call54 text _ H _ pa.words.length 0 n h86 (fun n P T => ?_)
    have h := variant0 P T _ 0 sp (n + 2) 0 pa hI hl2
    simpa using h
noncomputable def v1W (pa : PaK) (xs : Its) : List Wd := pa.words ++ rowW xs
noncomputable def v1X (sp : Nat → Int) (pa : PaK) (xs : Its) : D := lackX sp (lackOf (pa.words.length + 1) xs none) (.tup [.tup [sg "variant", .int (sp 0), pa.tree, .tup (itT sp (pa.words.length + 1) xs)], .int (v1W pa xs).length])
theorem v1_heard (pa : PaK) (xs : Its) (hx : xs.length ≤ 3) (hseps : Seps false xs) (text : Str) (sp : Nat → Int) (hsp : SpOk sp)
    (h86 : ∀ n H, callT (n + 18) 86 [.d (.str text)] H = .ok (.loc H.length) (H ++ [wd (rowsOf sp (v1W pa xs)) 0 0])) (n : Nat) (H : Hp) :
    callT (n + 66) 90 [.d (.gv 54), .d (.str text), .d (v1X sp pa xs)] H = .ok (.d (.bool true)) H := by
  revert hx hseps hsp h86; revert pa xs text sp n H
  refine @(eps4 (P := ?P) (PaK.one, (default : Mine.P.Its), ds, (default : Nat → Int)) rfl ((?m : Pi4 ?P) _ _ _ _))
  intro pa xs text sp n H hx hseps hsp h86
  have hok := its_okay xs false hseps
  have lp := pa.len_le
  have lw := itW_len xs
  have lr : (v1W pa xs).length = pa.words.length + (itW xs).length + 2 := by simp [v1W, rowW]; lia
  have hI := is0 sp (v1W pa xs)
  have hl2 : (rowsOf sp (v1W pa xs)).length ≤ 1000 := by rw [rowsOf_len]; lia
  generalize rowsOf sp (v1W pa xs) = rows at *
  have em : Str.ofString ")" ++ Str.ofString " is missing" = Str.ofString ") is missing" := ofS_app _ _
  rcases decode xs (pa.words.length + 1) false hseps with ⟨its, fin, e1, e2, e3, e4, e5⟩ | ⟨its, x, tail, e1, e2, e3⟩
  · have hI2 : Is rows sp 0 (pa.words ++ .s "(" :: (cw its ++ (finW fin ++ [.s ")"]))) := by simpa [v1W, rowW, e1] using hI
    have hp : pa.words.length + 1 + (cw its).length + (finW fin).length + 1 = (v1W pa xs).length := by rw [lr, e1]; simp; lia
    simp only [v1X, e3, lackX]
    have hT := itT_sm (m := 2) sp hsp xs hok (pa.words.length + 1)
    refine isT _ text _ H n ?_ (fun n => ?_)
    · have h2 : Sm 2200 6 (.tup (itT sp (pa.words.length + 1) xs)) := (Sms.tup hT).mono (by lia) (by lia)
      have h1 : Sm 4000 7 (.tup [sg "variant", .int (sp 0), pa.tree, .tup (itT sp (pa.words.length + 1) xs)]) := (Sms.tup (Sm.cons (sm_sg (m := 6) "variant" (by decide)) (Sm.cons (sm_int (hsp.b 0).1 (hsp.b 0).2) (Sm.cons (pa.sm.mono (Nat.le_refl _) (by lia)) (Sm.cons h2 Sms.nil))))).mono (by lia) (by lia)
      exact (Sms.tup (Sm.cons h1 (Sm.cons (sm_int (i := ((v1W pa xs).length : Int)) (by lia) (by lia)) Sms.nil))).mono (by lia) (by lia)
    · refine heardO 54 (by decide) call54 text _ H _ (v1W pa xs).length 0 n h86 (fun n P T => ?_)
      have h := variant1 P T rows 0 sp (n + 2) 0 pa its fin hI2 hl2 (by decide) (by lia)
      simp only [Nat.zero_add] at h
      rw [hp] at h
      rw [e2 sp]
      exact h
  · have hI2 : Is rows sp 0 (pa.words ++ .s "(" :: (cw its ++ (x.words ++ [.s "c"]))) := Is.l (b := tail ++ [Wd.s ")"]) (by simpa [v1W, rowW, e1] using hI)
    simp only [v1X, e2, lackX]
    refine isT _ text _ H n (sm_err _ (by decide) _ (hsp.b _)) (fun n => ?_)
    refine heardX 54 (by decide) call54 text _ H _ _ (pa.words.length + 1 + (cw its).length + x.words.length) 0 n h86 (fun n P T => ?_)
    rw [← em]
    have h := variantX P T rows 0 sp (n + 2) 0 pa its x hI2 hl2 (by decide) (by lia)
    simp only [Nat.zero_add] at h
    exact h
end
end Mine.P
end
section
namespace Mine.P
open PySem
noncomputable section
noncomputable def pathsL : List D := [.list [sg "P"], .list [sg "P", sg "::", sg "Q"], .list [sg "Self", sg "::", sg "A"]]
theorem pathsL_pa (x : D) (h : x ∈ pathsL) : ∃ pa : PaK, x = .list (pa.words.map wordD) := by
  simp [pathsL] at h
  rcases h with rfl | rfl | rfl
  · exact ⟨.one, rfl⟩
  · exact ⟨.two, rfl⟩
  · exact ⟨.slf, rfl⟩
theorem segs_tup (pa : PaK) (H : Hp) : bltnC 4 [.d (.list pa.segs)] H = .ok (.d pa.tree) H := by
  rw [pa.tree_segs]
  exact b_tuple _ H (by induction pa <;> simp [PaK.segs])
set_option maxHeartbeats 1000000 in
theorem v0_core (pa : PaK) (text : Str) (sp : Nat → Int) (S0 S1 S2 S3 : O)
    (e0 : ∀ n T, callT (n + 17) 82 [.loc 0, .d (.list pathsL)] (S0 :: T) = .ok (.d (.list (pa.words.map wordD))) (S1 :: T))
    (e1 : ∀ n T, callT (n + 12) 78 [.loc 0, .d (.int 3)] (S1 :: T) = .ok (.d (.int 0)) (S2 :: T))
    (e5 : ∀ n T, callT (n + 20) 92 [.loc 0, .d (.list ((pa.words ++ [Wd.s ")"]).map wordD))] (S2 :: T) = .ok (.d (.tup [.str text, spotsD sp (pa.words ++ [Wd.s ")"]).length])) (S3 :: T))
    (e6 : ∀ n H, callT (n + 66) 90 [.d (.gv 54), .d (.str text), .d (v0X sp pa)] H = .ok (.d (.bool true)) H) (n : Nat) (T : Hp) :
    callT (n + 80) 114 [.loc 0] (S0 :: T) = .ok (.d (.bool true)) (S3 :: T) := by
  have lp := pa.len_le
  have e2 := fun n loc H hf => path_comp pa n loc H hf
  have e3 := fun H => segs_tup pa H
  have i0 := fun H => idx_sp' sp (pa.words ++ [Wd.s ")"]).length 0 H (by lia) (by simp; lia)
  have l1 := fun H => len_L (pa.words.map wordD) H (by simp; lia)
  have a1 := fun H => b_addL (pa.words.map wordD) [wordD (.s ")")] H (by simp; lia)
  simp [wordD, Wd.text, pathsL, v0X] at e0 e5 a1 l1 i0 e6
  rw [cf _ _ _ _ f114 (by rfl) _ (by rfl)]
  simp [-BEq.rfl, f114, e0, e1, e_comp, compOk, freeOf, e2, e3, l1, a1, e5, i0, e6]
set_option maxHeartbeats 1000000 in
theorem v1_core (pa : PaK) (xs : Its) (hx : xs.length ≤ 3) (hseps : Seps false xs) (text : Str) (sp : Nat → Int) (S0 S1 S2 S3 S4 : O)
    (e0 : ∀ n T, callT (n + 17) 82 [.loc 0, .d (.list pathsL)] (S0 :: T) = .ok (.d (.list (pa.words.map wordD))) (S1 :: T))
    (e1 : ∀ n T, callT (n + 12) 78 [.loc 0, .d (.int 3)] (S1 :: T) = .ok (.d (.int 1)) (S2 :: T))
    (e4 : ∀ n T (p : Nat), callT (n + 32) 104 [.loc 0, .d (.int p)] (S2 :: T) = .ok (.d (.tup [.list ((rowW xs).map wordD), .list (itT ix (p + 1) xs), .bool (lastOf false xs), lackD (lackOf (p + 1) xs none)])) (S3 :: T))
    (e5 : ∀ n T, callT (n + 20) 92 [.loc 0, .d (.list ((v1W pa xs).map wordD))] (S3 :: T) = .ok (.d (.tup [.str text, spotsD sp (v1W pa xs).length])) (S4 :: T))
    (e6 : ∀ n H, callT (n + 66) 90 [.d (.gv 54), .d (.str text), .d (v1X sp pa xs)] H = .ok (.d (.bool true)) H) (n : Nat) (T : Hp) :
    callT (n + 80) 114 [.loc 0] (S0 :: T) = .ok (.d (.bool true)) (S4 :: T) := by
  revert hx hseps e0 e1 e4 e5 e6; revert pa xs text sp S0 S1 S2 S3 S4 n T
  refine @(eps10 (P := ?P) (PaK.one, (default : Mine.P.Its), ds, (default : Nat → Int), do', do', do', do', do', dN) rfl ((?m : Pi10 ?P) _ _ _ _ _ _ _ _ _ _))
  intro pa xs text sp S0 S1 S2 S3 S4 n T hx hseps e0 e1 e4 e5 e6
  have lp := pa.len_le
  have lw := itW_len xs
  have lr : (v1W pa xs).length = pa.words.length + (itW xs).length + 2 := by simp [v1W, rowW]; lia
  have lrr : (rowW xs).length = (itW xs).length + 2 := by simp [rowW]
  have e2 := fun n loc H hf => path_comp pa n loc H hf
  have e3 := fun H => segs_tup pa H
  have i1 := fun i H (hi : i ≤ (v1W pa xs).length) => idx_sp' sp (v1W pa xs).length i H hi (by lia)
  have i0 := fun H => i1 0 H (by lia)
  have l1 := fun H => len_L (pa.words.map wordD) H (by simp; lia)
  have l2 := fun H => len_L ((rowW xs).map wordD) H (by simp; lia)
  have a1 := fun H => b_addL (pa.words.map wordD) ((rowW xs).map wordD) H (by simp; lia)
  have e4' := fun n T => e4 n T pa.words.length
  have s1 := fun n loc H hf => spot_comp sp (v1W pa xs).length (by lia) 103 (Or.inr rfl) xs (pa.words.length + 1) (by lia) (by lia) n loc H hf
  have t1 := fun H => b_tuple (itT sp (pa.words.length + 1) xs) H (by rw [itT_len]; lia)
  have lv : ((v1W pa xs).length : Int) = (pa.words.length : Int) + ((rowW xs).length : Int) := by simp [v1W]
  have em : (v1W pa xs).map wordD = pa.words.map wordD ++ (rowW xs).map wordD := by simp [v1W]
  rw [em] at e5
  simp [pathsL] at e0 i0
  simp [wordD, Wd.text] at l1 l2
  rw [cf _ _ _ _ f114 (by rfl) _ (by rfl)]
  cases hl : lackOf (pa.words.length + 1) xs none with
  | none =>
    simp [v1X, hl, lackX, lackD, lv] at e6 e4'
    simp [-BEq.rfl, f114, e0, e1, e_comp, compOk, freeOf, e2, e3, l1, l2, a1, e4', s1, t1, e5, i0, e6]
  | some l =>
    have hle := lack_le _ xs hseps l hl
    have i2 := fun H => i1 l H (by lia)
    simp [v1X, hl, lackX, lackD] at e6 e4' i2
    simp [-BEq.rfl, f114, e0, e1, e_comp, compOk, freeOf, e2, e3, l1, l2, a1, e4', s1, t1, e5, i0, i2, e6]
end
end Mine.P
end
section
namespace Mine.P
open PySem
noncomputable section
noncomputable abbrev Fs := List (Bool × PT)
noncomputable def v2W (pa : PaK) (fs : Fs) (rest : Bool) : List Wd := pa.words ++ .s "{" :: (fw fs ++ (restW rest ++ [.s "}"]))
noncomputable def v2X (sp : Nat → Int) (pa : PaK) (fs : Fs) (rest : Bool) : D := .tup [.tup [sg "fields", .int (sp 0), pa.tree, .tup (fT sp (pa.words.length + 1) fs), .bool rest], .int (v2W pa fs rest).length]
theorem fw_len (fs : Fs) : (fw fs).length ≤ 11 * fs.length := by
  induction fs with
  | nil => simp [fw]
  | cons x r ih => have := x.2.len_le; simp [fw]; lia
theorem fT_sm {m : Nat} (sp : Nat → Int) (hs : SpOk sp) (fs : Fs) (hx : ∀ y ∈ fs, y.2.okay) : ∀ q, Sms (800 * fs.length) (m + 4) (fT sp q fs) := by
  induction fs with
  | nil => intro q; exact Sms.nil
  | cons x r ih =>
    intro q
    have h1 := PT.sm (m := m) x.2 (hx x (by simp)) sp hs (q + 2)
    have h3 : Sm 799 (m + 4) (.tup [sg (fname x.1), x.2.tree sp (q + 2)]) := (Sms.tup (Sm.cons (sm_sg (m := m + 3) (fname x.1) (by cases x.1 <;> decide)) (Sm.cons h1 Sms.nil))).mono (by lia) (by lia)
    have h2 := ih (fun y hy => hx y (List.mem_cons_of_mem _ hy)) (q + 2 + x.2.words.length + 1)
    exact (Sm.cons h3 h2).mono (by simp; lia) (Nat.le_refl _)
theorem v2_heard (pa : PaK) (fs : Fs) (rest : Bool) (hx : fs.length ≤ 3) (hok : ∀ y ∈ fs, y.2.okay) (text : Str) (sp : Nat → Int) (hsp : SpOk sp)
    (h86 : ∀ n H, callT (n + 18) 86 [.d (.str text)] H = .ok (.loc H.length) (H ++ [wd (rowsOf sp (v2W pa fs rest)) 0 0])) (n : Nat) (H : Hp) :
    callT (n + 66) 90 [.d (.gv 54), .d (.str text), .d (v2X sp pa fs rest)] H = .ok (.d (.bool true)) H := by
  have lp := pa.len_le
  have lw := fw_len fs
  have lr : (restW rest).length ≤ 1 := by induction rest <;> simp [restW]
  have lN : (v2W pa fs rest).length = pa.words.length + 1 + (fw fs).length + (restW rest).length + 1 := by simp [v2W]; lia
  have hI := is0 sp (v2W pa fs rest)
  have hl2 : (rowsOf sp (v2W pa fs rest)).length ≤ 1000 := by rw [rowsOf_len]; lia
  generalize rowsOf sp (v2W pa fs rest) = rows at *
  refine isT _ text _ H n ?_ (fun n => ?_)
  · have h2 : Sm 2500 6 (.tup (fT sp (pa.words.length + 1) fs)) := (Sms.tup (fT_sm (m := 1) sp hsp fs hok (pa.words.length + 1))).mono (by lia) (by lia)
    have h1 : Sm 5000 7 (.tup [sg "fields", .int (sp 0), pa.tree, .tup (fT sp (pa.words.length + 1) fs), .bool rest]) := (Sms.tup (Sm.cons (sm_sg (m := 6) "fields" (by decide)) (Sm.cons (sm_int (hsp.b 0).1 (hsp.b 0).2) (Sm.cons (pa.sm.mono (Nat.le_refl _) (by lia)) (Sm.cons h2 (Sm.cons sm_bool Sms.nil)))))).mono (by lia) (by lia)
    exact (Sms.tup (Sm.cons h1 (Sm.cons (sm_int (i := ((v2W pa fs rest).length : Int)) (by lia) (by lia)) Sms.nil))).mono (by lia) (by lia)
  · refine heardO 54 (by decide) call54 text _ H _ (v2W pa fs rest).length 0 n h86 (fun n P T => ?_)
    have h := variant2 P T rows 0 sp (n + 2) 0 pa fs rest hI hl2 (by decide) (by lia)
    simp only [Nat.zero_add] at h
    rw [← lN] at h
    exact h
noncomputable def ks114 : Ks := [(79, .local), (36, .local), (65, .local), (95, .local), (31, .local), (93, .cell), (102, .local), (100, .local), (105, .local), (106, .local), (103, .local), (38, .local), (91, .local), (20, .local), (67, .local), (101, .local), (82, .globalImplicit), (4, .globalImplicit), (78, .globalImplicit), (92, .globalImplicit), (90, .globalImplicit), (54, .globalImplicit), (0, .globalImplicit), (104, .globalImplicit), (8, .globalImplicit), (97, .globalImplicit), (3, .globalImplicit)]
noncomputable def body114 : List St := [.asg 36 (.bin .Add (.nm 36) (.list false [.idx (.str (Str.ofString "ab")) (.nm 101), .str (Str.ofString ":")])), .asgT [102, 103] false (.call 97 [.nm 79, .call 0 [.nm 36]]), .asgTT [36, 20] true [.bin .Add (.bin .Add (.nm 36) (.nm 102)) (.list false [.str (Str.ofString ",")]), .bin .Add (.nm 20) (.list false [.tup [.idx (.str (Str.ofString "ab")) (.nm 101), .nm 103]])]]
noncomputable def locF (pa : PaK) (rest : Bool) (ws : List Wd) (rv : V) (E : Loc) : Loc := (79, .loc 0) :: (36, .d (.list (ws.map wordD))) :: (95, .d (.int 2)) :: (65, .d pa.tree) :: (67, .d (.bool rest)) :: (20, rv) :: E
noncomputable def RV (T : Hp) (acc : List D) (rv : V) : Prop := rv = .d (.list acc) ∨ (rv = .loc (T.length + 1) ∧ acc = [])
theorem addRV (S : O) (T : Hp) (acc : List D) (rv : V) (y : D) (h : RV T acc rv) (ha : acc.length < 50) : binC .Add rv (.d (.list [y])) (S :: (T ++ [.list []])) = .ok (.d (.list (acc ++ [y]))) (S :: (T ++ [.list []])) := by
  rcases h with rfl | ⟨rfl, rfl⟩
  · exact b_addL acc [y] _ (by simp; lia)
  · exact addE_S S T [] [y] (by simp)
theorem idx_ab (b : Bool) (H : Hp) : idxC (.d (sg "ab")) (.d (.int (b2n b))) H = .ok (.d (sg (fname b))) H := by
  simp only [binC_eq, idxC_eq, bltnC_eq, slC_eq, strC_eq]
  have e : Str.ofString "ab" = mk [97, 98] := by decide
  have e1 : Str.ofString "a" = mk [97] := by decide
  have e2 : Str.ofString "b" = mk [98] := by decide
  cases b
  · simp only [sg, e, fname, Bool.false_eq_true, if_false, e1]; rfl
  · simp only [sg, e, fname, if_true, e2]; rfl
theorem v2_step (b : Bool) (x : PT) (S0 S1 : O) (e1 : ∀ n T (p : Nat), callT (n + 26) 97 [.loc 0, .d (.int p)] (S0 :: T) = .ok (.d (.tup [.list (x.words.map wordD), x.tree ix p])) (S1 :: T))
    (pa : PaK) (rest : Bool) (ws : List Wd) (acc : List D) (rv : V) (E : Loc) (T : Hp) (n : Nat) (hE : EOk E) (hrv : RV T acc rv) (hw : ws.length < 500) (ha : acc.length < 50) : ∃ E', EOk E' ∧
    bodyD (n + 30) ks114 101 body114 (.int (b2n b)) (locF pa rest ws rv E) (S0 :: (T ++ [.list []])) =
      .ok (.next, locF pa rest (ws ++ (.s (fname b) :: .s ":" :: (x.words ++ [.s ","]))) (.d (.list (acc ++ [.tup [sg (fname b), x.tree ix (ws.length + 2)]]))) E') (S1 :: (T ++ [.list []])) := by
  revert e1 hE hrv hw ha; revert b x S0 S1 pa rest ws acc rv E T n
  refine @(eps10 (P := ?P) (dB, (PT.mk false PK.wild none), do', do', PaK.one, dB, (default : List Mine.P.Wd), du, dv, dL) rfl ((?m : Pi10 ?P) _ _ _ _ _ _ _ _ _ _))
  intro b x S0 S1 pa rest ws acc rv E T n e1 hE hrv hw ha
  refine ⟨[(101, .d (.int (b2n b))), (102, .d (.list (x.words.map wordD))), (103, .d (x.tree ix (ws.length + 2)))], Or.inr ⟨_, _, _, rfl⟩, ?_⟩
  have lx := x.len_le
  have h0 := fun H => idx_ab b H
  have h1 := fun H => b_addL (ws.map wordD) [sg (fname b), sg ":"] H (by simp; lia)
  have h2 := fun H => len_L (ws.map wordD ++ [sg (fname b), sg ":"]) H (by simp; lia)
  have h3 := fun H => b_addL (ws.map wordD ++ [sg (fname b), sg ":"]) (x.words.map wordD) H (by simp; lia)
  have h4 := fun H => b_addL (ws.map wordD ++ sg (fname b) :: sg ":" :: x.words.map wordD) [sg ","] H (by simp; lia)
  have h5 := fun y => addRV S1 T acc rv y hrv ha
  have e1' := fun n T => e1 n T (ws.length + 2)
  simp at e1' h1 h2 h3 h4
  rcases hE with rfl | ⟨p, q, r, rfl⟩
  · simp [-BEq.rfl, bodyD, body114, ks114, locF, h0, h1, h2, h3, h4, h5, e1', wordD, Wd.text]
  · simp [-BEq.rfl, bodyD, body114, ks114, locF, h0, h1, h2, h3, h4, h5, e1', wordD, Wd.text]
end
end Mine.P
end
section
namespace Mine.P
open PySem
noncomputable section
theorem v2_loop (S : O) (hS : Src S) (m : Nat) (hm : m < 3) : ∃ (fs : Fs) (S' : O), fs.length ≤ 2 ∧ (∀ y ∈ fs, y.2.okay) ∧ Src S' ∧
    ∀ n T (pa : PaK) (rest : Bool) (ws : List Wd), ws.length < 400 → ∃ E rv, EOk E ∧ RV T (fT ix ws.length fs) rv ∧
      forD (bodyD (n + 30) ks114 101 body114) ((List.range m).map fun i : Nat => .int (i : Int)) (locF pa rest ws (.loc (T.length + 1)) []) (S :: (T ++ [.list []])) =
        .ok (.next, locF pa rest (ws ++ fw fs) rv E) (S' :: (T ++ [.list []])) := by
  obtain ⟨x, S1, hx, hS1, e1⟩ := pattern_gen S hS
  obtain ⟨x2, S2, hx2, hS2, e2⟩ := pattern_gen S1 hS1
  have lx := x.len_le
  match m, hm with
  | 0, _ => exact ⟨[], S, by simp, by simp, hS, fun n T pa rest ws hw => ⟨[], _, Or.inl rfl, Or.inr ⟨rfl, rfl⟩, by simp [fw]⟩⟩
  | 1, _ =>
    refine ⟨[(false, x)], S1, by simp, by simp [hx], hS1, fun n T pa rest ws hw => ?_⟩
    obtain ⟨E1, hE1, h1⟩ := v2_step false x S S1 e1 pa rest ws [] _ [] T n (Or.inl rfl) (Or.inr ⟨rfl, rfl⟩) (by lia) (by simp)
    refine ⟨E1, _, hE1, Or.inl rfl, ?_⟩
    show forD _ [D.int (b2n false)] _ _ = _
    rw [forD_cons, h1, bind_ok, forS_next]
    simp [fw, fT]
  | 2, _ =>
    refine ⟨[(false, x), (true, x2)], S2, by simp, by simp [hx, hx2], hS2, fun n T pa rest ws hw => ?_⟩
    obtain ⟨E1, hE1, h1⟩ := v2_step false x S S1 e1 pa rest ws [] _ [] T n (Or.inl rfl) (Or.inr ⟨rfl, rfl⟩) (by lia) (by simp)
    obtain ⟨E2, hE2, h2⟩ := v2_step true x2 S1 S2 e2 pa rest (ws ++ (.s (fname false) :: .s ":" :: (x.words ++ [.s ","]))) ([] ++ [.tup [sg (fname false), x.tree ix (ws.length + 2)]]) _ E1 T n hE1 (Or.inl rfl) (by simp; lia) (by simp)
    refine ⟨E2, _, hE2, Or.inl rfl, ?_⟩
    show forD _ [D.int (b2n false), D.int (b2n true)] _ _ = _
    rw [forD_cons, h1, bind_ok, forS_next, forD_cons, h2, bind_ok, forS_next]
    simp [fw, fT]
    rw [show ws.length + (x.words.length + 1 + 1 + 1) + 2 = ws.length + 2 + x.words.length + 1 + 2 by lia]
  | m + 3, hm => exact absurd hm (by lia)
section
variable (sp : Nat → Int) (N : Nat) (hN : N < 900)
include hN
theorem spot_fs (fs : Fs) : ∀ (q i : Nat) (x y : D), q + (fw fs).length ≤ N → (fT ix q fs)[i]? = some x → (fT sp q fs)[i]? = some y →
    ∃ (b : Bool) (u v : D), x = .tup [sg (fname b), u] ∧ y = .tup [sg (fname b), v] ∧ ∀ n H, callT (n + 16) 107 [.d u, .d (spotsD sp N)] H = .ok (.d v) H := by
  induction fs with
  | nil => intro q i x y _ hx; simp [fT] at hx
  | cons z r ih =>
    intro q i x y hq hx hy
    simp [fw] at hq
    cases i with
    | zero =>
      simp [fT] at hx hy
      subst hx; subst hy
      exact ⟨z.1, _, _, rfl, rfl, fun n H => spot_pt sp N hN z.2 (q + 2) (by lia) n H⟩
    | succ i =>
      simp only [fT, List.getElem?_cons_succ] at hx hy
      exact ih _ i x y (by lia) hx hy
theorem spot_fcomp (fs : Fs) (q : Nat) (h : q + (fw fs).length ≤ N) (hx : fs.length < 900) (n : Nat) (loc : Loc) (src : V) (H : Hp)
    (hs : ∀ acc i, nextItem (H ++ [.list acc]) src i = some (fT ix q fs)[i]?)
    (hfree : freeOf [(41, .local), (33, .local), (103, .local), (107, .globalImplicit), (93, .free)] loc = [(93, .d (spotsD sp N))]) :
    compV (n + 20) [(41, .local), (33, .local), (103, .local), (107, .globalImplicit), (93, .free)] loc (.tup [.nm 33, .call 107 [.nm 103, .nm 93]]) (.two [33, 103]) [] src H =
      .ok (.d (.list (fT sp q fs))) H := by
  refine compV_map _ _ _ _ _ _ _ _ (fT ix q fs) _ hs (by rw [fT_len]; lia) (by rw [fT_len, fT_len]) ?_
  intro i x y hx hy acc
  obtain ⟨b, u, v, rfl, rfl, e⟩ := spot_fs sp N hN fs q i x y h hx hy
  simp [-BEq.rfl, compF, compC, tgVals, tgNames, hfree, e]
end
theorem b_rangeZ (m : Nat) (H : Hp) (h : m < 3) : bltnC 8 [.d (.int (m : Int))] H = .ok (.d (.rng m)) H := b_range m H (by lia)
set_option maxHeartbeats 2000000 in
theorem v2_core (pa : PaK) (fs : Fs) (hfs : fs.length ≤ 2) (r m : Nat) (hm : m < 3) (text : Str) (sp : Nat → Int) (S0 S1 S2 S3 S4 S5 S6 : O) (rest : Bool) (hr : decide ((r : Int) = 0) = rest)
    (e0 : ∀ n T, callT (n + 17) 82 [.loc 0, .d (.list pathsL)] (S0 :: T) = .ok (.d (.list (pa.words.map wordD))) (S1 :: T))
    (e1 : ∀ n T, callT (n + 12) 78 [.loc 0, .d (.int 3)] (S1 :: T) = .ok (.d (.int 2)) (S2 :: T))
    (e2 : ∀ n T, callT (n + 12) 78 [.loc 0, .d (.int 2)] (S2 :: T) = .ok (.d (.int r)) (S3 :: T))
    (e3 : ∀ n T, callT (n + 12) 78 [.loc 0, .d (.int 3)] (S3 :: T) = .ok (.d (.int m)) (S4 :: T))
    (e4 : ∀ n T (pa : PaK) (rest : Bool) (ws : List Wd), ws.length < 400 → ∃ E rv, EOk E ∧ RV T (fT ix ws.length fs) rv ∧
      forD (bodyD (n + 30) ks114 101 body114) ((List.range m).map fun i : Nat => .int (i : Int)) (locF pa rest ws (.loc (T.length + 1)) []) (S4 :: (T ++ [.list []])) =
        .ok (.next, locF pa rest (ws ++ fw fs) rv E) (S5 :: (T ++ [.list []])))
    (e5 : ∀ n T, callT (n + 20) 92 [.loc 0, .d (.list ((v2W pa fs rest).map wordD))] (S5 :: T) = .ok (.d (.tup [.str text, spotsD sp (v2W pa fs rest).length])) (S6 :: T))
    (e6 : ∀ n H, callT (n + 66) 90 [.d (.gv 54), .d (.str text), .d (v2X sp pa fs rest)] H = .ok (.d (.bool true)) H) (n : Nat) (T : Hp) :
    callT (n + 80) 114 [.loc 0] (S0 :: T) = .ok (.d (.bool true)) (S6 :: T) := by
  revert hfs hm hr e0 e1 e2 e3 e4 e5 e6; revert pa fs r m text sp S0 S1 S2 S3 S4 S5 S6 rest n T
  refine @(eps16 (P := ?P) (PaK.one, (default : Mine.P.Fs), dN, dN, ds, (default : Nat → Int), do', do', do', do', do', do', do', dB, dN, dH) rfl ((?m : Pi16 ?P) _ _ _ _ _ _ _ _ _ _ _ _ _ _ _ _))
  intro pa fs r m text sp S0 S1 S2 S3 S4 S5 S6 rest n T hfs hm hr e0 e1 e2 e3 e4 e5 e6
  have lp := pa.len_le
  have lw := fw_len fs
  have lrr : (restW rest).length ≤ 1 := by induction rest <;> simp [restW]
  have lN : (v2W pa fs rest).length = pa.words.length + 1 + (fw fs).length + (restW rest).length + 1 := by simp [v2W]; lia
  have c2 := fun n loc H hf => path_comp pa n loc H hf
  have c3 := fun H => segs_tup pa H
  have i0 := fun H => idx_sp' sp (v2W pa fs rest).length 0 H (by lia) (by lia)
  have a0 := fun H => b_addL (pa.words.map wordD) [wordD (.s "{")] H (by simp; lia)
  have b1 := fun H => b_rangeZ m H hm
  have f1 := fun loc H => forV_rng (n + 78) ks114 101 body114 loc m H (by lia)
  obtain ⟨E, rv, hE, hrv, e4⟩ := e4 (n + 48) T pa rest (pa.words ++ [Wd.s "{"]) (by simp; lia)
  have lq : (pa.words ++ [Wd.s "{"]).length = pa.words.length + 1 := by simp
  rw [lq] at hrv
  have hs : ∀ (S : O) acc (i : Nat), nextItem ((S :: (T ++ [.list []])) ++ [.list acc]) rv i = some (fT ix (pa.words.length + 1) fs)[i]? := by
    intro S acc i
    rcases hrv with rfl | ⟨rfl, h0⟩
    · rfl
    · rw [h0]
      have e : ((S :: (T ++ [O.list []])) ++ [O.list acc])[T.length + 1]? = some (.list []) := by
        rw [List.getElem?_append_left (by simp)]
        exact get_S S T (.list [])
      show (match ((S :: (T ++ [O.list []])) ++ [O.list acc])[T.length + 1]? with
        | some (.list l) => some l[i]?
        | _ => Option.none) = _
      rw [e]
  have s1 := fun n loc hf => spot_fcomp sp (v2W pa fs rest).length (by lia) fs (pa.words.length + 1) (by lia) (by lia) n loc rv (S6 :: (T ++ [.list []])) (hs S6) hf
  have t1 := fun H => b_tuple (fT sp (pa.words.length + 1) fs) H (by rw [fT_len]; lia)
  have a1 := fun H => b_addL ((pa.words ++ (Wd.s "{" :: fw fs)).map wordD) ((restW rest).map wordD) H (by simp; lia)
  have a2 := fun H => b_addL ((pa.words ++ (Wd.s "{" :: (fw fs ++ restW rest))).map wordD) [wordD (.s "}")] H (by simp; lia)
  have l2 := fun H => len_L ((v2W pa fs rest).map wordD) H (by simp; lia)
  have e5' := fun n => e5 n (T ++ [.list []])
  simp only [List.length_map] at l2
  simp only [v2X] at e6
  obtain ⟨N, hN⟩ : ∃ N, (v2W pa fs rest).length = N := ⟨_, rfl⟩
  rw [hN] at i0 s1 e5' e6 l2
  clear e5 hs lN hN
  simp [pathsL] at e0 i0
  simp [v2W, wordD, Wd.text] at a0 a1 a2 l2 e5'
  simp [ks114, body114, locF, wordD, Wd.text] at e4 f1
  rw [cf _ _ _ _ f114 (by rfl) _ (by rfl)]
  cases rest
  · simp [restW, wordD, Wd.text] at a1 a2 l2 e5'
    simp at hr
    rcases hE with rfl | ⟨p, q, u, rfl⟩
    · simp [-BEq.rfl, f114, e0, e1, e2, e3, hr, e_comp, compOk, freeOf, c2, c3, a0, b1, f1, e4, a1, a2, l2, e5', s1, t1, i0, e6]
    · simp [-BEq.rfl, f114, e0, e1, e2, e3, hr, e_comp, compOk, freeOf, c2, c3, a0, b1, f1, e4, a1, a2, l2, e5', s1, t1, i0, e6]
  · simp [restW, wordD, Wd.text] at a1 a2 l2 e5'
    simp at hr
    rcases hE with rfl | ⟨p, q, u, rfl⟩
    · simp [-BEq.rfl, f114, e0, e1, e2, e3, hr, e_comp, compOk, freeOf, c2, c3, a0, b1, f1, e4, a1, a2, l2, e5', s1, t1, i0, e6]
    · simp [-BEq.rfl, f114, e0, e1, e2, e3, hr, e_comp, compOk, freeOf, c2, c3, a0, b1, f1, e4, a1, a2, l2, e5', s1, t1, i0, e6]
end
end Mine.P
end
section
namespace Mine.P
open PySem
noncomputable section
theorem variants_right (S : O) (hS : Src S) : ∃ S', Src S' ∧ ∀ n T, callT (n + 80) 114 [.loc 0] (S :: T) = .ok (.d (.bool true)) (S' :: T) := by
  obtain ⟨x, S1, hx, hS1, e0⟩ := one S hS pathsL (by decide) (by decide)
  obtain ⟨pa, rfl⟩ := pathsL_pa x hx
  have lp := pa.len_le
  obtain ⟨w, S2, hw, hS2, e1⟩ := draw S1 hS1 3 (by decide) (by decide)
  match w, hw, e1 with
  | 0, _, e1 =>
    obtain ⟨text, sp, S3, hS3, hsp, e5, h86⟩ := written2 S2 hS2 (pa.words ++ [Wd.s ")"]) (by
      intro y hy
      simp only [List.mem_append, List.mem_singleton] at hy
      rcases hy with hy | rfl
      · exact pa.words_ok y hy
      · exact lits_ok _ (by decide)) (by simp; lia)
    exact ⟨S3, hS3, fun n T => v0_core pa text sp S S1 S2 S3 e0 e1 e5 (fun n H => v0_heard pa text sp hsp h86 n H) n T⟩
  | 1, _, e1 =>
    obtain ⟨xs, S3, hx, hseps, hS3, e4⟩ := row_gen S2 hS2
    have hok := its_okay xs false hseps
    have lw := itW_len xs
    obtain ⟨text, sp, S4, hS4, hsp, e5, h86⟩ := written2 S3 hS3 (v1W pa xs) (by
      intro y hy
      simp only [v1W, List.mem_append] at hy
      rcases hy with hy | hy
      · exact pa.words_ok y hy
      · exact rowW_ok xs hok y hy) (by simp [v1W, rowW]; lia)
    exact ⟨S4, hS4, fun n T => v1_core pa xs hx hseps text sp S S1 S2 S3 S4 e0 e1 e4 e5 (fun n H => v1_heard pa xs hx hseps text sp hsp h86 n H) n T⟩
  | 2, _, e1 =>
    obtain ⟨r, S3, hr, hS3, e2⟩ := draw S2 hS2 2 (by decide) (by decide)
    obtain ⟨m, S4, hm, hS4, e3⟩ := draw S3 hS3 3 (by decide) (by decide)
    obtain ⟨fs, S5, hfs, hok, hS5, e4⟩ := v2_loop S4 hS4 m (by lia)
    have lw := fw_len fs
    have fok : ∀ (fs : Fs), (∀ y ∈ fs, y.2.okay) → ∀ y ∈ fw fs, WdOk y := by
      intro fs
      induction fs with
      | nil => intro _ y hy; simp [fw] at hy
      | cons z q ih =>
        intro h y hy
        simp only [fw, List.mem_cons, List.mem_append] at hy
        rcases hy with rfl | rfl | hy | rfl | hy
        · cases z.1 <;> exact lits_ok _ (by decide)
        · exact lits_ok _ (by decide)
        · exact z.2.words_ok (h z (by simp)) y hy
        · exact lits_ok _ (by decide)
        · exact ih (fun u hu => h u (List.mem_cons_of_mem _ hu)) y hy
    obtain ⟨text, sp, S6, hS6, hsp, e5, h86⟩ := written2 S5 hS5 (v2W pa fs (decide ((r : Int) = 0))) (by
      intro y hy
      simp only [v2W, List.mem_append, List.mem_cons, List.not_mem_nil, or_false] at hy
      rcases hy with hy | rfl | hy | hy | rfl
      · exact pa.words_ok y hy
      · exact lits_ok _ (by decide)
      · exact fok fs hok y hy
      · unfold restW at hy
        split at hy
        · simp at hy; subst hy; exact lits_ok _ (by decide)
        · simp at hy
      · exact lits_ok _ (by decide)) (by
        generalize decide ((r : Int) = 0) = bb
        have : (restW bb).length ≤ 1 := by unfold restW; split <;> simp
        simp [v2W]; lia)
    exact ⟨S6, hS6, fun n T => v2_core pa fs hfs r m (by lia) text sp S S1 S2 S3 S4 S5 S6 _ rfl e0 e1 e2 e3 e4 e5 (fun n H => v2_heard pa fs _ (by lia) hok text sp hsp h86 n H) n T⟩
  | w + 3, hw, _ => exact absurd hw (by lia)
theorem b_mulL (a b : Int) (H : Hp) (h0 : -2147483648 ≤ a) (h1 : a < 2147483648) : binC .Mult (.d (.int a)) (.d (.int b)) H = .ok (.d (.int (a * b))) H := by
  simp only [binC_eq, idxC_eq, bltnC_eq, slC_eq, strC_eq]
  show R.guard (smallI a || smallI b) _ = _
  rw [small_of h0 h1, Bool.true_or]; rfl
theorem b_pow (H : Hp) : binC .Pow (.d (.int 10)) (.d (.int 18)) H = .ok (.d (.int 1000000000000000000)) H := by simp only [binC_eq, idxC_eq, bltnC_eq, slC_eq, strC_eq]; rfl
theorem b_max (a b : Int) (H : Hp) : bltnC 2 [.d (.int a), .d (.int b)] H = .ok (.d (.int (if a < b then b else a))) H := by simp only [binC_eq, idxC_eq, bltnC_eq, slC_eq, strC_eq]; rfl
theorem pool_any (zs : List Int) (hz : zs.length ≤ 63) : ∃ S, Src S ∧ ∀ n, callT (n + 14) 72 [.d (.list (zs.map .int)), .d (.int 0)] [] = .ok (.loc 0) [S] := by
  have key : ∀ (c : Int), (zs = [] ∧ c = 0 ∨ ∃ r, zs = c :: r) → ∃ S, Src S ∧ ∀ n, callT (n + 14) 72 [.d (.list (zs.map .int)), .d (.int 0)] [] = .ok (.loc 0) [S] := by
    intro c hc
    generalize hb : (if c < -1 - c then -1 - c else c) = big
    have hm0 := Int.fmod_nonneg_of_pos ((big.fmod 2147483629 + 17) * 48271) (show (0 : Int) < 2147483647 by decide)
    have hm1 := Int.fmod_lt_of_pos ((big.fmod 2147483629 + 17) * 48271) (show (0 : Int) < 2147483647 by decide)
    generalize hm : ((big.fmod 2147483629 + 17) * 48271).fmod 2147483647 = mixed at hm0 hm1
    refine ⟨.list [.int (big * (if 1000000000000000000 ≤ big then 1 else 0)), .int mixed], ⟨_, _, rfl, hm0, hm1⟩, fun n => ?_⟩
    have e1 := fun H => len_L (zs.map .int) H (by simp; lia)
    have e2 := fun H => b_max c (-1 - c) H
    rw [hb] at e2
    have e3 := fun H => b_mod big 2147483629 H (by decide) (by decide)
    have e4 := fun H => b_mulL 7919 0 H (by decide) (by decide)
    have e5 := fun H => b_mulL 0 0 H (by decide) (by decide)
    have e6 := fun H => b_mulL 31 0 H (by decide) (by decide)
    have e7 := fun H => b_mulR (big.fmod 2147483629 + 17) 48271 H (by decide) (by decide)
    have e8 := fun H => b_mod ((big.fmod 2147483629 + 17) * 48271) 2147483647 H (by decide) (by decide)
    rw [hm] at e8
    have e9 := fun H => b_mulR big 1 H (by decide) (by decide)
    have e10 := fun H => b_mulR big 0 H (by decide) (by decide)
    simp at e4 e5 e6 e9 e10
    rw [cf _ _ _ _ f72 (by rfl) _ (by rfl)]
    rcases hc with ⟨rfl, rfl⟩ | ⟨r, rfl⟩
    · simp at e1 e2
      by_cases hB : (1000000000000000000 : Int) ≤ big <;> simp [-BEq.rfl, f72, e1, e2, e3, e4, e5, e6, e7, e8, b_pow, hB, e9, e10, leaveF]
    · simp at e1 e2
      have hr : (0 : Int) < (r.length : Int) + 1 := by lia
      by_cases hB : (1000000000000000000 : Int) ≤ big <;> simp [-BEq.rfl, f72, e1, e2, e3, e4, e5, e6, e7, e8, b_pow, hB, e9, e10, hr, leaveF]
  cases zs with
  | nil => exact key 0 (Or.inl ⟨rfl, rfl⟩)
  | cons c r => exact key c (Or.inr ⟨r, rfl⟩)
end
end Mine.P
end
section
namespace Mine.P
open PySem
noncomputable section
theorem pure_law (zs : List Int) (hz : zs.length ≤ 63) : callF tab 100 116 [.d (.list (zs.map .int))] [] = .ok (.d (.bool true)) [] := by
  obtain ⟨S, hS, e0⟩ := pool_any zs hz
  obtain ⟨S1, hS1, e1⟩ := names_right S hS
  obtain ⟨S2, hS2, e2⟩ := refs_right S1 hS1
  obtain ⟨S3, hS3, e3⟩ := wholes_right S2 hS2
  obtain ⟨S4, hS4, e4⟩ := parens_right false S3 hS3
  obtain ⟨S5, hS5, e5⟩ := parens_right true S4 hS4
  obtain ⟨S6, hS6, e6⟩ := variants_right S5 hS5
  have t : callT 94 115 [] [] = .ok (.d (.bool true)) [] := by
    rw [callT_eq]; exact told
  rw [← callT_eq]
  rw [cf 99 _ _ _ f116 (by rfl) _ (by rfl)]
  simp [-BEq.rfl, f116, t, e0, e1, e2, e3, e4, e5, e6]
end
end Mine.P
end
theorem PySem.Challenge.cw_xw0169_01_holds : PySem.Challenge.rw_xw0169_01.Holds :=
  Mine.law_holds fun zs hz _ => ⟨[], Mine.P.pure_law zs hz⟩

import PyProof.Rows.All
import Wide.All
import OpenK.AllK
import Wide.FinOn
import Lean
import PySem.Challenge.RW_qd0068_01
open PySem PySem.W PyProof.Rows
set_option Elab.async false
namespace Mine
noncomputable abbrev PW : Program := PySem.Challenge.pw_qd0068_01
noncomputable abbrev ROW : RowW := PySem.Challenge.rw_qd0068_01.row.toRowW
noncomputable def vw : Program := view PySem.Challenge.pw_qd0068_01 [0, 2, 3, 5, 6, 8, 9, 10, 11, 12, 13, 14, 15, 16, 17, 18, 19, 20, 21, 22, 24, 25, 26, 28, 29, 30, 31, 33, 34, 35, 37, 38, 39, 40, 41, 42, 43, 44, 45, 46, 47]
noncomputable abbrev loose : List Str := [Str.ofString "ToolError", Str.ofString "CharSet", Str.ofString "Node", Str.ofString "Empty", Str.ofString "Never", Str.ofString "Chars", Str.ofString "Cat", Str.ofString "Alt", Str.ofString "Star", Str.ofString "Plus", Str.ofString "Opt", Str.ofString "Repeat"]
noncomputable abbrev Xt : Shared → Bool := fun s => xlAt vw [] s && recOk (RowW.records ROW) s
noncomputable abbrev bd : List Stmt := behindTheImports PW
noncomputable def ev : Env := { scope := PW.main.scope, locals := mainNs, globals := mainNs, cells := [], code := .ref 13, frame := some 14 }
abbrev ps : Pos := ⟨0, 0, 0, 0⟩
noncomputable def treeA (P : Params) : BT :=
  .node (boot_o_0 P)
    (.node (boot_o_1 P)
      (.node (boot_o_3 P) (.node (boot_o_7 P) .nil .nil) (.node { cls := .type "tuple", data := .seq #[] } .nil .nil))
      (.node (boot_o_5 P) (.node (boot_o_9 P) .nil .nil) (.node { cls := .type "code", data := .fields #[.str (Str.ofString "<module>") 182, .str (Str.ofString "<module>") 183, .str (Str.ofString "/claim/cut.py") 184, .int 1 0, .int 0 0, .int 0 0, .int 0 0, .int 0 0, .ref 11, .bool false, .int 181 0, .ref 12, .none, .none, .none, .none, .int 185 0, .int 1 0, .str (Str.ofString "/claim/cut.py") 186] } .nil .nil)))
    (.node (boot_o_2 P)
      (.node (boot_o_4 P) (.node (boot_o_8 P) .nil .nil) (.node { cls := .none, data := .fields #[] } .nil .nil))
      (.node (boot_o_6 P) (.node (boot_o_10 P) .nil .nil) (.node { cls := .type "frame", data := .plain, slots := #[some (.ref 13), some (.ref 3), some (.ref 3), none, some (.str (Str.ofString "__main__") 164), none, some (.ref 0)] } .nil .nil)))
noncomputable def Sa (w : World) (os : OsState) : SharedT := ⟨treeA w.params, 15, {}, #[], boot_drawn, 187, os⟩

set_option maxRecDepth 100000
set_option maxHeartbeats 0
theorem preG (w : World) (os : OsState) : topGo treeTable PW w 11 (some (.ref 6)) 12 ⟨boot_heap w.params, #[], boot_drawn, boot_toks, os⟩ (topStub PW) =
    some ((Sa w os).abs, ⟨denote treeTable (.body bd ev), .body bd ev, ps, [topFrame ps]⟩) := by
  rw [Fast.te15667345088766844465, Fast.te14364793385576792824, Fast.te11892475500146522536]
  kernel_rfl
theorem blkG (w : World) (os : OsState) : segRun treeTable PW w 11 (some (.ref 6)) 1 1 (Sa w os).abs (blockOf bd ev (.body bd ev) ps [topFrame ps]) = some (.next, (Sa w os).abs, .body bd ev, ps) := by
  kernel_rfl
theorem openG : ∀ w : World, (fencedOpening treeTable PW w 15000).map (fun s => (s.heap, s.gens, s.drawn, s.toks)) = some (boot_heap w.params, Array.mk [], boot_drawn, boot_toks) :=
  boot_open (by kernel_rfl) (by decide) (fun s => by kernel_rfl)
theorem sizeG : ∀ w : World, ((boot_heap w.params).isNs mainGlobals && (#[] : Array GenState).size == 0, (boot_heap w.params).objs.size, (boot_heap w.params).nsMap mainGlobals "__annotations__") = (true, 11, some (.ref 6)) := fun w => by
  kernel_rfl
abbrev pe : Pos := ⟨429, 0, 449, 83⟩
theorem finG (w : World) (s : Shared) : topRun treeTable PW w 11 (some (.ref 6)) 2 s ⟨doneF .next, .body bd ev, pe, [topFrame ps]⟩ = some s := by
  obtain ⟨heap, gens, drawn, toks, os⟩ := s
  rw [Fast.te14082659384304107361, Fast.te14364793385576792824]
  kernel_rfl
theorem leftA {p q : Program} {loose : List Str} {Xt : Shared → Bool} {α : Type} {Yf : Shared → α} {Ya : World → α} {N m₀ M1 M2 M3 M4 : Nat} {ann : Option Value} {S : World → OsState → SharedT} {b : List Stmt} {env : Env} {c : Code} {ps pe : Pos} {h₀ : Params → Heap} {d₀ : Drawn} {k₀ : Nat}
    (open_ : ∀ w : World, (fencedOpening treeTable p w N).map (fun s => (s.heap, s.gens, s.drawn, s.toks)) = some (h₀ w.params, Array.mk [], d₀, k₀))
    (size : ∀ w : World, ((h₀ w.params).isNs mainGlobals && (#[] : Array GenState).size == 0, (h₀ w.params).objs.size, (h₀ w.params).nsMap mainGlobals "__annotations__") = (true, m₀, ann))
    (pre : ∀ w os, topGo treeTable p w m₀ ann M1 ⟨h₀ w.params, #[], d₀, k₀, os⟩ (topStub p) = some ((S w os).abs, ⟨denote treeTable (.body b env), c, ps, [topFrame ps]⟩))
    (blk : ∀ w os, segRun treeTable p w m₀ ann 1 M2 (S w os).abs (blockOf b env c ps [topFrame ps]) = some (.next, (S w os).abs, c, ps))
    (fin : ∀ w s, topRun treeTable p w m₀ ann M4 s ⟨doneF .next, c, pe, [topFrame ps]⟩ = some s)
    (le : M1 + (M2 + (M3 + M4)) ≤ N)
    (run : ∀ (w : World) (os : OsState), (segRunT treeTable p w m₀ ann 1 M3 (S w os) (piecesOf b env c ps [topFrame ps])).map (fun r => (r.1, r.2.2,
        ((staticsOk (importedModules p.main.body) (h₀ w.params) r.2.1.abs.heap && namesBound p r.2.1.abs.heap && gensDone r.2.1.abs && laidKept (h₀ w.params) r.2.1.abs.heap), openSeen q loose (importedModules p.main.body) Xt true r.2.1.abs))) =
      some (.next, (c, pe), (true, openGood q loose)))
    (runY : ∀ (w : World) (os : OsState), (segRunT treeTable p w m₀ ann 1 M3 (S w os) (piecesOf b env c ps [topFrame ps])).map (fun r => Yf r.2.1.abs) = some (Ya w)) : LeftO p q loose Xt Yf Ya N := fun w => by
  obtain ⟨⟨h, gs, d, k, os⟩, e, e'⟩ := Option.map_eq_some_iff.mp (open_ w)
  obtain ⟨rfl, rfl, rfl, rfl⟩ : h = h₀ w.params ∧ gs = #[] ∧ d = d₀ ∧ k = k₀ := by simpa using e'
  obtain ⟨z1, z2, z3⟩ : _ ∧ _ ∧ _ := by simpa only [Prod.mk.injEq] using size w
  obtain ⟨⟨f, s', c', q'⟩, hr, hq⟩ := Option.map_eq_some_iff.mp (run w os)
  dsimp only at hq
  have e1 := congrArg Prod.fst hq
  have e2 := congrArg (fun x => x.2.1) hq
  have l1 := congrArg (fun x => x.2.2.1) hq
  have l2 := congrArg (fun x => x.2.2.2) hq
  have l3 : Yf s'.abs = Ya w := by
    have y := runY w os
    rw [hr] at y
    exact Option.some.inj y
  clear hq
  dsimp only at e1 e2 l1 l2
  obtain ⟨rfl, rfl⟩ := Prod.mk.inj e2
  subst e1
  have a1 := segRun_of hr
  have a2 := piece_app (rest := []) a1 (piece_nil (fin w s'.abs))
  rw [List.append_nil] at a2
  have a3 := piece_block (blk w os) a2
  have a4 := go_top (pre w os) a3
  have a5 := topRun_mono (N - (M1 + (M2 + (M3 + M4)))) _ _ _ _ a4
  rw [show M1 + (M2 + (M3 + M4)) + (N - (M1 + (M2 + (M3 + M4)))) = N by omega] at a5
  have t : topFrom treeTable p w N ⟨h₀ w.params, #[], d, k, os⟩ = some s'.abs := by
    unfold topFrom
    dsimp only
    rw [z1, z2, z3, a5]
    show (match staticsOk (importedModules p.main.body) (h₀ w.params) s'.abs.heap && namesBound p s'.abs.heap && gensDone s'.abs && laidKept (h₀ w.params) s'.abs.heap with | true => _ | false => _) = _
    rw [l1]
  unfold openEnds
  rw [e]
  show (topFrom treeTable p w N _).map _ = _
  rw [t]
  exact congrArg some (Prod.ext l2 l3)
theorem runL (w : World) (os : OsState) : (segRunT treeTable PW w 11 (some (.ref 6)) 1 7247 (Sa w os) (piecesOf bd ev (.body bd ev) ps [topFrame ps])).map (fun r => (r.1, r.2.2, ((staticsOk (importedModules PW.main.body) (boot_heap w.params) r.2.1.abs.heap && namesBound PW r.2.1.abs.heap && gensDone r.2.1.abs && laidKept (boot_heap w.params) r.2.1.abs.heap), openSeen vw loose (importedModules PW.main.body) Xt true r.2.1.abs))) =
   some (.next, (.body bd ev, pe), (true, openGood vw loose)) := by
  rw [Fast.te10110043849684766642, Fast.te14364793385576792824, Fast.te4187177175401517315, Fast.te5923862056798008813]
  kernel_rfl
theorem leftG {α : Type} {Yf : Shared → α} {Ya : World → α} (runY : ∀ (w : World) (os : OsState), (segRunT treeTable PW w 11 (some (.ref 6)) 1 7247 (Sa w os) (piecesOf bd ev (.body bd ev) ps [topFrame ps])).map (fun r => Yf r.2.1.abs) = some (Ya w)) : LeftO PW vw loose Xt Yf Ya 15000 :=
  leftA (c := .body bd ev) (pe := pe) openG sizeG preG blkG finG (by decide) runL runY
theorem saidG : PySem.Challenge.rw_qd0068_01.wellSaid = true := by
  rw [Fast.te9446332074065402090]
  kernel_rfl
local macro_rules | `(tactic| o_head $_H:term) => `(tactic| assumption)
theorem kmk : PySem.Challenge.rw_qd0068_01.row.Holds ∨ ¬ PySem.Challenge.rw_qd0068_01.row.Holds := by
  by_cases h : PySem.Challenge.rw_qd0068_01.row.Holds
  · left
    k_head
  · right
    exact h
end Mine
open PySem PySem.W PyProof.Rows
set_option Elab.async false
namespace Mine
set_option maxRecDepth 100000
set_option maxHeartbeats 0
noncomputable abbrev KK : Params → Frag := kmk.heap_1
def kas : List Addr := [2, 3, 15, 17, 18, 20, 21, 22, 29, 30, 32, 33, 35, 36, 37, 39, 40, 42, 43, 44, 45, 46, 47, 50, 57, 58, 59, 69, 71, 72, 74, 75, 76, 78, 79, 81, 82, 83, 84, 85, 86, 88, 89, 91, 92, 93, 94, 95, 96, 98, 99, 101, 102, 103, 104, 105, 106, 109, 110, 111, 112, 113, 114, 116, 117, 119, 120, 121, 122, 123, 124, 126, 127, 129, 130, 131, 132, 133, 134, 136, 137, 139, 140, 141, 143, 144, 146, 147, 148, 150, 151, 153, 154, 155, 157, 158, 160, 161, 162, 164, 165, 167, 168, 169, 171, 172, 174, 175, 176, 178, 179, 181, 182, 183, 185, 186, 188, 189, 190, 192, 193, 195, 196, 197, 199, 200, 202, 203, 204, 206, 207, 209, 210, 211, 213, 214, 216, 217, 218, 220, 221, 223, 224, 225, 226, 227, 228, 229, 239, 241, 242, 244, 245, 246, 248, 249, 251, 252, 253, 254, 255, 256, 257, 260, 267, 268, 269, 272, 279, 280, 281, 284, 291, 293, 294, 296, 297, 298, 300, 301, 303, 304, 305, 306, 307, 310, 317, 319, 320, 322, 323, 324, 326, 327, 329, 330, 331, 333, 334, 336, 337, 338, 339, 340, 343, 350, 351, 352, 355, 362, 363, 364, 367, 374, 376, 377, 379, 380, 381, 383, 384, 386, 387, 388, 390, 391, 393, 394, 395, 396, 397, 400, 407, 408, 409, 412, 419, 420, 421, 424, 431, 432, 433, 436, 443, 445, 446, 448, 449, 450, 452, 453, 455, 456, 457, 458, 459, 462, 464, 465, 467, 468, 476, 478, 479, 481, 482, 483, 485, 486, 488, 489, 490, 492, 493, 495, 496, 497, 499, 500, 502, 503, 504, 505, 506, 507, 508, 511, 513, 514, 516, 517, 518, 520, 521, 523, 524, 525, 527, 528, 530, 531, 532, 534, 535, 537, 538, 539, 541, 542, 544, 545, 546, 548, 549, 551, 552, 553, 556, 557, 565, 566, 568, 569, 571, 572, 573, 575, 576, 578, 579, 580, 582, 583, 585, 586, 587, 588, 589, 590, 591, 601, 603, 604, 606, 607, 608, 610, 611, 613, 614, 615, 617, 618, 620, 621, 622, 624, 625, 627, 628, 629, 631, 632, 634, 635, 636, 639, 640, 641, 643, 644, 646, 647, 648, 649, 650, 651, 652, 662, 663, 665, 666, 668, 669, 670, 672, 673, 675, 676, 677, 679, 680, 682, 683, 684, 686, 687, 689, 690, 691, 693, 694, 696, 697, 698, 700, 701, 703, 704, 705, 706, 707, 708, 709, 712, 713, 716, 717, 718, 720, 721, 723, 724, 725, 727, 728, 730, 731, 732, 735, 736, 737, 740, 741, 742, 745, 746, 747, 750, 751, 752, 755, 756, 757, 760, 761, 762, 765, 766]
theorem kas_eq : ∀ P, kas = (kmk.heap_1 P).map (·.1) := fun P => by kernel_rfl
noncomputable abbrev HK : Hook := kHook kmk.heap_1 kas kas_eq
theorem runK (w : World) (os : OsState) : (segRunT treeTable PW w 11 (some (.ref 6)) 1 7247 (Sa w os) (piecesOf bd ev (.body bd ev) ps [topFrame ps])).map (fun r => HK.obs r.2.1.abs) = some (HK.val w) := by
  rw [Fast.te10110043849684766642, Fast.te14364793385576792824]
  kernel_rfl
theorem leftK : LeftO PW vw loose Xt HK.obs HK.val 15000 := leftG runK
end Mine

open PySem PySem.W PySem.Spec PySem.Calls PyProof.Rows PyProof.V
set_option linter.all false
set_option rowWalk.seconds 0
namespace Mine
set_option maxRecDepth 100000
set_option maxHeartbeats 8000000
local macro_rules | `(tactic| walk_at $s:str) => `(tactic| k_extra $s)
local macro_rules | `(tactic| k_enter) => `(tactic| k_extra "k_enter")
local macro_rules | `(tactic| k_upd) => `(tactic| k_extra "k_upd")
local macro_rules | `(tactic| k_all) => `(tactic| k_extra "k_all")
local macro_rules | `(tactic| k_mem) => `(tactic| k_extra "k_mem")
local macro_rules | `(tactic| k_qdec) => `(tactic| decide +kernel)
/-! one elimination for many binders: a walk's goal and the facts' types are written once, not once a binder -/
theorem ex1.{u0} {α0 : Sort u0} {P : α0 → Prop} {X : Prop} (h : ∃ x0, P x0) (q : ∀ x0, P x0 → X) : X := by
  obtain ⟨x0, h⟩ := h; exact q x0 h
theorem ex2.{u0,u1} {α0 : Sort u0} {α1 : Sort u1} {P : α0 → α1 → Prop} {X : Prop} (h : ∃ x0 x1, P x0 x1) (q : ∀ x0 x1, P x0 x1 → X) : X := by
  obtain ⟨x0, x1, h⟩ := h; exact q x0 x1 h
theorem ex3.{u0,u1,u2} {α0 : Sort u0} {α1 : Sort u1} {α2 : Sort u2} {P : α0 → α1 → α2 → Prop} {X : Prop} (h : ∃ x0 x1 x2, P x0 x1 x2) (q : ∀ x0 x1 x2, P x0 x1 x2 → X) : X := by
  obtain ⟨x0, x1, x2, h⟩ := h; exact q x0 x1 x2 h
theorem ex4.{u0,u1,u2,u3} {α0 : Sort u0} {α1 : Sort u1} {α2 : Sort u2} {α3 : Sort u3} {P : α0 → α1 → α2 → α3 → Prop} {X : Prop} (h : ∃ x0 x1 x2 x3, P x0 x1 x2 x3) (q : ∀ x0 x1 x2 x3, P x0 x1 x2 x3 → X) : X := by
  obtain ⟨x0, x1, x2, x3, h⟩ := h; exact q x0 x1 x2 x3 h
theorem ex6.{u0,u1,u2,u3,u4,u5} {α0 : Sort u0} {α1 : Sort u1} {α2 : Sort u2} {α3 : Sort u3} {α4 : Sort u4} {α5 : Sort u5} {P : α0 → α1 → α2 → α3 → α4 → α5 → Prop} {X : Prop} (h : ∃ x0 x1 x2 x3 x4 x5, P x0 x1 x2 x3 x4 x5) (q : ∀ x0 x1 x2 x3 x4 x5, P x0 x1 x2 x3 x4 x5 → X) : X := by
  obtain ⟨x0, x1, x2, x3, x4, x5, h⟩ := h; exact q x0 x1 x2 x3 x4 x5 h
theorem ex8.{u0,u1,u2,u3,u4,u5,u6,u7} {α0 : Sort u0} {α1 : Sort u1} {α2 : Sort u2} {α3 : Sort u3} {α4 : Sort u4} {α5 : Sort u5} {α6 : Sort u6} {α7 : Sort u7} {P : α0 → α1 → α2 → α3 → α4 → α5 → α6 → α7 → Prop} {X : Prop} (h : ∃ x0 x1 x2 x3 x4 x5 x6 x7, P x0 x1 x2 x3 x4 x5 x6 x7) (q : ∀ x0 x1 x2 x3 x4 x5 x6 x7, P x0 x1 x2 x3 x4 x5 x6 x7 → X) : X := by
  obtain ⟨x0, x1, x2, x3, x4, x5, x6, x7, h⟩ := h; exact q x0 x1 x2 x3 x4 x5 x6 x7 h
theorem ex12.{u0,u1,u2,u3,u4,u5,u6,u7,u8,u9,u10,u11} {α0 : Sort u0} {α1 : Sort u1} {α2 : Sort u2} {α3 : Sort u3} {α4 : Sort u4} {α5 : Sort u5} {α6 : Sort u6} {α7 : Sort u7} {α8 : Sort u8} {α9 : Sort u9} {α10 : Sort u10} {α11 : Sort u11} {P : α0 → α1 → α2 → α3 → α4 → α5 → α6 → α7 → α8 → α9 → α10 → α11 → Prop} {X : Prop} (h : ∃ x0 x1 x2 x3 x4 x5 x6 x7 x8 x9 x10 x11, P x0 x1 x2 x3 x4 x5 x6 x7 x8 x9 x10 x11) (q : ∀ x0 x1 x2 x3 x4 x5 x6 x7 x8 x9 x10 x11, P x0 x1 x2 x3 x4 x5 x6 x7 x8 x9 x10 x11 → X) : X := by
  obtain ⟨x0, x1, x2, x3, x4, x5, x6, x7, x8, x9, x10, x11, h⟩ := h; exact q x0 x1 x2 x3 x4 x5 x6 x7 x8 x9 x10 x11 h
theorem and2 {A0 A1 X : Prop} (h : A0 ∧ A1) (q : A0 → A1 → X) : X := by
  obtain ⟨h0, h1⟩ := h; exact q h0 h1
theorem and3 {A0 A1 A2 X : Prop} (h : A0 ∧ A1 ∧ A2) (q : A0 → A1 → A2 → X) : X := by
  obtain ⟨h0, h1, h2⟩ := h; exact q h0 h1 h2
theorem and4 {A0 A1 A2 A3 X : Prop} (h : A0 ∧ A1 ∧ A2 ∧ A3) (q : A0 → A1 → A2 → A3 → X) : X := by
  obtain ⟨h0, h1, h2, h3⟩ := h; exact q h0 h1 h2 h3
theorem and6 {A0 A1 A2 A3 A4 A5 X : Prop} (h : A0 ∧ A1 ∧ A2 ∧ A3 ∧ A4 ∧ A5) (q : A0 → A1 → A2 → A3 → A4 → A5 → X) : X := by
  obtain ⟨h0, h1, h2, h3, h4, h5⟩ := h; exact q h0 h1 h2 h3 h4 h5
theorem words_exs_1 : True := by
  k_with "sp 2" => first | (refine' ex1 h9e ?_; clear h9e; intro _ _ ) | (refine' and2 h9e ?_; clear h9e; intro _ _ ) | (rcases h9e with ⟨_, _⟩)
  k_with "sp 3" => first | (refine' ex2 h9e ?_; clear h9e; intro _ _ _ ) | (refine' ex1 h9e ?_; clear h9e; intro _ h9e; walk_at "sp 2") | (refine' and3 h9e ?_; clear h9e; intro _ _ _ ) | (refine' and2 h9e ?_; clear h9e; intro _ h9e; walk_at "sp 2") | (rcases h9e with ⟨_, _, _⟩)
  k_with "sp 4" => first | (refine' ex3 h9e ?_; clear h9e; intro _ _ _ _ ) | (refine' ex2 h9e ?_; clear h9e; intro _ _ h9e; walk_at "sp 2") | (refine' ex1 h9e ?_; clear h9e; intro _ h9e; walk_at "sp 3") | (refine' and4 h9e ?_; clear h9e; intro _ _ _ _ ) | (refine' and3 h9e ?_; clear h9e; intro _ _ h9e; walk_at "sp 2") | (refine' and2 h9e ?_; clear h9e; intro _ h9e; walk_at "sp 3") | (rcases h9e with ⟨_, _, _, _⟩)
  k_with "sp 5" => first | (refine' ex4 h9e ?_; clear h9e; intro _ _ _ _ _ ) | (refine' ex3 h9e ?_; clear h9e; intro _ _ _ h9e; walk_at "sp 2") | (refine' ex2 h9e ?_; clear h9e; intro _ _ h9e; walk_at "sp 3") | (refine' ex1 h9e ?_; clear h9e; intro _ h9e; walk_at "sp 4") | (refine' and4 h9e ?_; clear h9e; intro _ _ _ h9e; walk_at "sp 2") | (refine' and3 h9e ?_; clear h9e; intro _ _ h9e; walk_at "sp 3") | (refine' and2 h9e ?_; clear h9e; intro _ h9e; walk_at "sp 4") | (rcases h9e with ⟨_, _, _, _, _⟩)
  k_with "sp 6" => first | (refine' ex4 h9e ?_; clear h9e; intro _ _ _ _ h9e; walk_at "sp 2") | (refine' ex3 h9e ?_; clear h9e; intro _ _ _ h9e; walk_at "sp 3") | (refine' ex2 h9e ?_; clear h9e; intro _ _ h9e; walk_at "sp 4") | (refine' ex1 h9e ?_; clear h9e; intro _ h9e; walk_at "sp 5") | (refine' and6 h9e ?_; clear h9e; intro _ _ _ _ _ _ ) | (refine' and4 h9e ?_; clear h9e; intro _ _ _ h9e; walk_at "sp 3") | (refine' and3 h9e ?_; clear h9e; intro _ _ h9e; walk_at "sp 4") | (refine' and2 h9e ?_; clear h9e; intro _ h9e; walk_at "sp 5") | (rcases h9e with ⟨_, _, _, _, _, _⟩)
  k_with "sp 7" => first | (refine' ex6 h9e ?_; clear h9e; intro _ _ _ _ _ _ _ ) | (refine' ex4 h9e ?_; clear h9e; intro _ _ _ _ h9e; walk_at "sp 3") | (refine' ex3 h9e ?_; clear h9e; intro _ _ _ h9e; walk_at "sp 4") | (refine' ex2 h9e ?_; clear h9e; intro _ _ h9e; walk_at "sp 5") | (refine' ex1 h9e ?_; clear h9e; intro _ h9e; walk_at "sp 6") | (refine' and6 h9e ?_; clear h9e; intro _ _ _ _ _ h9e; walk_at "sp 2") | (refine' and4 h9e ?_; clear h9e; intro _ _ _ h9e; walk_at "sp 4") | (refine' and3 h9e ?_; clear h9e; intro _ _ h9e; walk_at "sp 5") | (refine' and2 h9e ?_; clear h9e; intro _ h9e; walk_at "sp 6") | (rcases h9e with ⟨_, _, _, _, _, _, _⟩)
  k_with "sp 8" => first | (refine' ex6 h9e ?_; clear h9e; intro _ _ _ _ _ _ h9e; walk_at "sp 2") | (refine' ex4 h9e ?_; clear h9e; intro _ _ _ _ h9e; walk_at "sp 4") | (refine' ex3 h9e ?_; clear h9e; intro _ _ _ h9e; walk_at "sp 5") | (refine' ex2 h9e ?_; clear h9e; intro _ _ h9e; walk_at "sp 6") | (refine' ex1 h9e ?_; clear h9e; intro _ h9e; walk_at "sp 7") | (refine' and6 h9e ?_; clear h9e; intro _ _ _ _ _ h9e; walk_at "sp 3") | (refine' and4 h9e ?_; clear h9e; intro _ _ _ h9e; walk_at "sp 5") | (refine' and3 h9e ?_; clear h9e; intro _ _ h9e; walk_at "sp 6") | (refine' and2 h9e ?_; clear h9e; intro _ h9e; walk_at "sp 7") | (rcases h9e with ⟨_, _, _, _, _, _, _, _⟩)
  k_with "sp 9" => first | (refine' ex8 h9e ?_; clear h9e; intro _ _ _ _ _ _ _ _ _ ) | (refine' ex6 h9e ?_; clear h9e; intro _ _ _ _ _ _ h9e; walk_at "sp 3") | (refine' ex4 h9e ?_; clear h9e; intro _ _ _ _ h9e; walk_at "sp 5") | (refine' ex3 h9e ?_; clear h9e; intro _ _ _ h9e; walk_at "sp 6") | (refine' ex2 h9e ?_; clear h9e; intro _ _ h9e; walk_at "sp 7") | (refine' ex1 h9e ?_; clear h9e; intro _ h9e; walk_at "sp 8") | (refine' and6 h9e ?_; clear h9e; intro _ _ _ _ _ h9e; walk_at "sp 4") | (refine' and4 h9e ?_; clear h9e; intro _ _ _ h9e; walk_at "sp 6") | (refine' and3 h9e ?_; clear h9e; intro _ _ h9e; walk_at "sp 7") | (refine' and2 h9e ?_; clear h9e; intro _ h9e; walk_at "sp 8") | (rcases h9e with ⟨_, _, _, _, _, _, _, _, _⟩)
  k_with "sp 10" => first | (refine' ex8 h9e ?_; clear h9e; intro _ _ _ _ _ _ _ _ h9e; walk_at "sp 2") | (refine' ex6 h9e ?_; clear h9e; intro _ _ _ _ _ _ h9e; walk_at "sp 4") | (refine' ex4 h9e ?_; clear h9e; intro _ _ _ _ h9e; walk_at "sp 6") | (refine' ex3 h9e ?_; clear h9e; intro _ _ _ h9e; walk_at "sp 7") | (refine' ex2 h9e ?_; clear h9e; intro _ _ h9e; walk_at "sp 8") | (refine' ex1 h9e ?_; clear h9e; intro _ h9e; walk_at "sp 9") | (refine' and6 h9e ?_; clear h9e; intro _ _ _ _ _ h9e; walk_at "sp 5") | (refine' and4 h9e ?_; clear h9e; intro _ _ _ h9e; walk_at "sp 7") | (refine' and3 h9e ?_; clear h9e; intro _ _ h9e; walk_at "sp 8") | (refine' and2 h9e ?_; clear h9e; intro _ h9e; walk_at "sp 9") | (rcases h9e with ⟨_, _, _, _, _, _, _, _, _, _⟩)
  k_with "sp 11" => first | (refine' ex8 h9e ?_; clear h9e; intro _ _ _ _ _ _ _ _ h9e; walk_at "sp 3") | (refine' ex6 h9e ?_; clear h9e; intro _ _ _ _ _ _ h9e; walk_at "sp 5") | (refine' ex4 h9e ?_; clear h9e; intro _ _ _ _ h9e; walk_at "sp 7") | (refine' ex3 h9e ?_; clear h9e; intro _ _ _ h9e; walk_at "sp 8") | (refine' ex2 h9e ?_; clear h9e; intro _ _ h9e; walk_at "sp 9") | (refine' ex1 h9e ?_; clear h9e; intro _ h9e; walk_at "sp 10") | (refine' and6 h9e ?_; clear h9e; intro _ _ _ _ _ h9e; walk_at "sp 6") | (refine' and4 h9e ?_; clear h9e; intro _ _ _ h9e; walk_at "sp 8") | (refine' and3 h9e ?_; clear h9e; intro _ _ h9e; walk_at "sp 9") | (refine' and2 h9e ?_; clear h9e; intro _ h9e; walk_at "sp 10") | (rcases h9e with ⟨_, _, _, _, _, _, _, _, _, _, _⟩)
  k_with "sp 12" => first | (refine' ex8 h9e ?_; clear h9e; intro _ _ _ _ _ _ _ _ h9e; walk_at "sp 4") | (refine' ex6 h9e ?_; clear h9e; intro _ _ _ _ _ _ h9e; walk_at "sp 6") | (refine' ex4 h9e ?_; clear h9e; intro _ _ _ _ h9e; walk_at "sp 8") | (refine' ex3 h9e ?_; clear h9e; intro _ _ _ h9e; walk_at "sp 9") | (refine' ex2 h9e ?_; clear h9e; intro _ _ h9e; walk_at "sp 10") | (refine' ex1 h9e ?_; clear h9e; intro _ h9e; walk_at "sp 11") | (refine' and6 h9e ?_; clear h9e; intro _ _ _ _ _ h9e; walk_at "sp 7") | (refine' and4 h9e ?_; clear h9e; intro _ _ _ h9e; walk_at "sp 9") | (refine' and3 h9e ?_; clear h9e; intro _ _ h9e; walk_at "sp 10") | (refine' and2 h9e ?_; clear h9e; intro _ h9e; walk_at "sp 11") | (rcases h9e with ⟨_, _, _, _, _, _, _, _, _, _, _, _⟩)
  k_with "sp 13" => first | (refine' ex12 h9e ?_; clear h9e; intro _ _ _ _ _ _ _ _ _ _ _ _ _ ) | (refine' ex8 h9e ?_; clear h9e; intro _ _ _ _ _ _ _ _ h9e; walk_at "sp 5") | (refine' ex6 h9e ?_; clear h9e; intro _ _ _ _ _ _ h9e; walk_at "sp 7") | (refine' ex4 h9e ?_; clear h9e; intro _ _ _ _ h9e; walk_at "sp 9") | (refine' ex3 h9e ?_; clear h9e; intro _ _ _ h9e; walk_at "sp 10") | (refine' ex2 h9e ?_; clear h9e; intro _ _ h9e; walk_at "sp 11") | (refine' ex1 h9e ?_; clear h9e; intro _ h9e; walk_at "sp 12") | (refine' and6 h9e ?_; clear h9e; intro _ _ _ _ _ h9e; walk_at "sp 8") | (refine' and4 h9e ?_; clear h9e; intro _ _ _ h9e; walk_at "sp 10") | (refine' and3 h9e ?_; clear h9e; intro _ _ h9e; walk_at "sp 11") | (refine' and2 h9e ?_; clear h9e; intro _ h9e; walk_at "sp 12") | (rcases h9e with ⟨_, _, _, _, _, _, _, _, _, _, _, _, _⟩)
  k_with "sp 14" => first | (refine' ex12 h9e ?_; clear h9e; intro _ _ _ _ _ _ _ _ _ _ _ _ h9e; walk_at "sp 2") | (refine' ex8 h9e ?_; clear h9e; intro _ _ _ _ _ _ _ _ h9e; walk_at "sp 6") | (refine' ex6 h9e ?_; clear h9e; intro _ _ _ _ _ _ h9e; walk_at "sp 8") | (refine' ex4 h9e ?_; clear h9e; intro _ _ _ _ h9e; walk_at "sp 10") | (refine' ex3 h9e ?_; clear h9e; intro _ _ _ h9e; walk_at "sp 11") | (refine' ex2 h9e ?_; clear h9e; intro _ _ h9e; walk_at "sp 12") | (refine' ex1 h9e ?_; clear h9e; intro _ h9e; walk_at "sp 13") | (refine' and6 h9e ?_; clear h9e; intro _ _ _ _ _ h9e; walk_at "sp 9") | (refine' and4 h9e ?_; clear h9e; intro _ _ _ h9e; walk_at "sp 11") | (refine' and3 h9e ?_; clear h9e; intro _ _ h9e; walk_at "sp 12") | (refine' and2 h9e ?_; clear h9e; intro _ h9e; walk_at "sp 13") | (rcases h9e with ⟨_, _, _, _, _, _, _, _, _, _, _, _, _, _⟩)
  k_with "sp 15" => first | (refine' ex12 h9e ?_; clear h9e; intro _ _ _ _ _ _ _ _ _ _ _ _ h9e; walk_at "sp 3") | (refine' ex8 h9e ?_; clear h9e; intro _ _ _ _ _ _ _ _ h9e; walk_at "sp 7") | (refine' ex6 h9e ?_; clear h9e; intro _ _ _ _ _ _ h9e; walk_at "sp 9") | (refine' ex4 h9e ?_; clear h9e; intro _ _ _ _ h9e; walk_at "sp 11") | (refine' ex3 h9e ?_; clear h9e; intro _ _ _ h9e; walk_at "sp 12") | (refine' ex2 h9e ?_; clear h9e; intro _ _ h9e; walk_at "sp 13") | (refine' ex1 h9e ?_; clear h9e; intro _ h9e; walk_at "sp 14") | (refine' and6 h9e ?_; clear h9e; intro _ _ _ _ _ h9e; walk_at "sp 10") | (refine' and4 h9e ?_; clear h9e; intro _ _ _ h9e; walk_at "sp 12") | (refine' and3 h9e ?_; clear h9e; intro _ _ h9e; walk_at "sp 13") | (refine' and2 h9e ?_; clear h9e; intro _ h9e; walk_at "sp 14") | (rcases h9e with ⟨_, _, _, _, _, _, _, _, _, _, _, _, _, _, _⟩)
  k_with "sp 16" => first | (refine' ex12 h9e ?_; clear h9e; intro _ _ _ _ _ _ _ _ _ _ _ _ h9e; walk_at "sp 4") | (refine' ex8 h9e ?_; clear h9e; intro _ _ _ _ _ _ _ _ h9e; walk_at "sp 8") | (refine' ex6 h9e ?_; clear h9e; intro _ _ _ _ _ _ h9e; walk_at "sp 10") | (refine' ex4 h9e ?_; clear h9e; intro _ _ _ _ h9e; walk_at "sp 12") | (refine' ex3 h9e ?_; clear h9e; intro _ _ _ h9e; walk_at "sp 13") | (refine' ex2 h9e ?_; clear h9e; intro _ _ h9e; walk_at "sp 14") | (refine' ex1 h9e ?_; clear h9e; intro _ h9e; walk_at "sp 15") | (refine' and6 h9e ?_; clear h9e; intro _ _ _ _ _ h9e; walk_at "sp 11") | (refine' and4 h9e ?_; clear h9e; intro _ _ _ h9e; walk_at "sp 13") | (refine' and3 h9e ?_; clear h9e; intro _ _ h9e; walk_at "sp 14") | (refine' and2 h9e ?_; clear h9e; intro _ h9e; walk_at "sp 15") | (rcases h9e with ⟨_, _, _, _, _, _, _, _, _, _, _, _, _, _, _, _⟩)
  k_with "sp 17" => first | (refine' ex12 h9e ?_; clear h9e; intro _ _ _ _ _ _ _ _ _ _ _ _ h9e; walk_at "sp 5") | (refine' ex8 h9e ?_; clear h9e; intro _ _ _ _ _ _ _ _ h9e; walk_at "sp 9") | (refine' ex6 h9e ?_; clear h9e; intro _ _ _ _ _ _ h9e; walk_at "sp 11") | (refine' ex4 h9e ?_; clear h9e; intro _ _ _ _ h9e; walk_at "sp 13") | (refine' ex3 h9e ?_; clear h9e; intro _ _ _ h9e; walk_at "sp 14") | (refine' ex2 h9e ?_; clear h9e; intro _ _ h9e; walk_at "sp 15") | (refine' ex1 h9e ?_; clear h9e; intro _ h9e; walk_at "sp 16") | (refine' and6 h9e ?_; clear h9e; intro _ _ _ _ _ h9e; walk_at "sp 12") | (refine' and4 h9e ?_; clear h9e; intro _ _ _ h9e; walk_at "sp 14") | (refine' and3 h9e ?_; clear h9e; intro _ _ h9e; walk_at "sp 15") | (refine' and2 h9e ?_; clear h9e; intro _ h9e; walk_at "sp 16") | (rcases h9e with ⟨_, _, _, _, _, _, _, _, _, _, _, _, _, _, _, _, _⟩)
  k_with "sp 18" => first | (refine' ex12 h9e ?_; clear h9e; intro _ _ _ _ _ _ _ _ _ _ _ _ h9e; walk_at "sp 6") | (refine' ex8 h9e ?_; clear h9e; intro _ _ _ _ _ _ _ _ h9e; walk_at "sp 10") | (refine' ex6 h9e ?_; clear h9e; intro _ _ _ _ _ _ h9e; walk_at "sp 12") | (refine' ex4 h9e ?_; clear h9e; intro _ _ _ _ h9e; walk_at "sp 14") | (refine' ex3 h9e ?_; clear h9e; intro _ _ _ h9e; walk_at "sp 15") | (refine' ex2 h9e ?_; clear h9e; intro _ _ h9e; walk_at "sp 16") | (refine' ex1 h9e ?_; clear h9e; intro _ h9e; walk_at "sp 17") | (refine' and6 h9e ?_; clear h9e; intro _ _ _ _ _ h9e; walk_at "sp 13") | (refine' and4 h9e ?_; clear h9e; intro _ _ _ h9e; walk_at "sp 15") | (refine' and3 h9e ?_; clear h9e; intro _ _ h9e; walk_at "sp 16") | (refine' and2 h9e ?_; clear h9e; intro _ h9e; walk_at "sp 17") | (rcases h9e with ⟨_, _, _, _, _, _, _, _, _, _, _, _, _, _, _, _, _, _⟩)
  k_with "sp 19" => first | (refine' ex12 h9e ?_; clear h9e; intro _ _ _ _ _ _ _ _ _ _ _ _ h9e; walk_at "sp 7") | (refine' ex8 h9e ?_; clear h9e; intro _ _ _ _ _ _ _ _ h9e; walk_at "sp 11") | (refine' ex6 h9e ?_; clear h9e; intro _ _ _ _ _ _ h9e; walk_at "sp 13") | (refine' ex4 h9e ?_; clear h9e; intro _ _ _ _ h9e; walk_at "sp 15") | (refine' ex3 h9e ?_; clear h9e; intro _ _ _ h9e; walk_at "sp 16") | (refine' ex2 h9e ?_; clear h9e; intro _ _ h9e; walk_at "sp 17") | (refine' ex1 h9e ?_; clear h9e; intro _ h9e; walk_at "sp 18") | (refine' and6 h9e ?_; clear h9e; intro _ _ _ _ _ h9e; walk_at "sp 14") | (refine' and4 h9e ?_; clear h9e; intro _ _ _ h9e; walk_at "sp 16") | (refine' and3 h9e ?_; clear h9e; intro _ _ h9e; walk_at "sp 17") | (refine' and2 h9e ?_; clear h9e; intro _ h9e; walk_at "sp 18") | (rcases h9e with ⟨_, _, _, _, _, _, _, _, _, _, _, _, _, _, _, _, _, _, _⟩)
  k_with "sp 20" => first | (refine' ex12 h9e ?_; clear h9e; intro _ _ _ _ _ _ _ _ _ _ _ _ h9e; walk_at "sp 8") | (refine' ex8 h9e ?_; clear h9e; intro _ _ _ _ _ _ _ _ h9e; walk_at "sp 12") | (refine' ex6 h9e ?_; clear h9e; intro _ _ _ _ _ _ h9e; walk_at "sp 14") | (refine' ex4 h9e ?_; clear h9e; intro _ _ _ _ h9e; walk_at "sp 16") | (refine' ex3 h9e ?_; clear h9e; intro _ _ _ h9e; walk_at "sp 17") | (refine' ex2 h9e ?_; clear h9e; intro _ _ h9e; walk_at "sp 18") | (refine' ex1 h9e ?_; clear h9e; intro _ h9e; walk_at "sp 19") | (refine' and6 h9e ?_; clear h9e; intro _ _ _ _ _ h9e; walk_at "sp 15") | (refine' and4 h9e ?_; clear h9e; intro _ _ _ h9e; walk_at "sp 17") | (refine' and3 h9e ?_; clear h9e; intro _ _ h9e; walk_at "sp 18") | (refine' and2 h9e ?_; clear h9e; intro _ h9e; walk_at "sp 19") | (rcases h9e with ⟨_, _, _, _, _, _, _, _, _, _, _, _, _, _, _, _, _, _, _, _⟩)
  k_with "sp 21" => first | (refine' ex12 h9e ?_; clear h9e; intro _ _ _ _ _ _ _ _ _ _ _ _ h9e; walk_at "sp 9") | (refine' ex8 h9e ?_; clear h9e; intro _ _ _ _ _ _ _ _ h9e; walk_at "sp 13") | (refine' ex6 h9e ?_; clear h9e; intro _ _ _ _ _ _ h9e; walk_at "sp 15") | (refine' ex4 h9e ?_; clear h9e; intro _ _ _ _ h9e; walk_at "sp 17") | (refine' ex3 h9e ?_; clear h9e; intro _ _ _ h9e; walk_at "sp 18") | (refine' ex2 h9e ?_; clear h9e; intro _ _ h9e; walk_at "sp 19") | (refine' ex1 h9e ?_; clear h9e; intro _ h9e; walk_at "sp 20") | (refine' and6 h9e ?_; clear h9e; intro _ _ _ _ _ h9e; walk_at "sp 16") | (refine' and4 h9e ?_; clear h9e; intro _ _ _ h9e; walk_at "sp 18") | (refine' and3 h9e ?_; clear h9e; intro _ _ h9e; walk_at "sp 19") | (refine' and2 h9e ?_; clear h9e; intro _ h9e; walk_at "sp 20") | (rcases h9e with ⟨_, _, _, _, _, _, _, _, _, _, _, _, _, _, _, _, _, _, _, _, _⟩)
  k_with "sp 22" => first | (refine' ex12 h9e ?_; clear h9e; intro _ _ _ _ _ _ _ _ _ _ _ _ h9e; walk_at "sp 10") | (refine' ex8 h9e ?_; clear h9e; intro _ _ _ _ _ _ _ _ h9e; walk_at "sp 14") | (refine' ex6 h9e ?_; clear h9e; intro _ _ _ _ _ _ h9e; walk_at "sp 16") | (refine' ex4 h9e ?_; clear h9e; intro _ _ _ _ h9e; walk_at "sp 18") | (refine' ex3 h9e ?_; clear h9e; intro _ _ _ h9e; walk_at "sp 19") | (refine' ex2 h9e ?_; clear h9e; intro _ _ h9e; walk_at "sp 20") | (refine' ex1 h9e ?_; clear h9e; intro _ h9e; walk_at "sp 21") | (refine' and6 h9e ?_; clear h9e; intro _ _ _ _ _ h9e; walk_at "sp 17") | (refine' and4 h9e ?_; clear h9e; intro _ _ _ h9e; walk_at "sp 19") | (refine' and3 h9e ?_; clear h9e; intro _ _ h9e; walk_at "sp 20") | (refine' and2 h9e ?_; clear h9e; intro _ h9e; walk_at "sp 21") | (rcases h9e with ⟨_, _, _, _, _, _, _, _, _, _, _, _, _, _, _, _, _, _, _, _, _, _⟩)
  k_with "sp 23" => first | (refine' ex12 h9e ?_; clear h9e; intro _ _ _ _ _ _ _ _ _ _ _ _ h9e; walk_at "sp 11") | (refine' ex8 h9e ?_; clear h9e; intro _ _ _ _ _ _ _ _ h9e; walk_at "sp 15") | (refine' ex6 h9e ?_; clear h9e; intro _ _ _ _ _ _ h9e; walk_at "sp 17") | (refine' ex4 h9e ?_; clear h9e; intro _ _ _ _ h9e; walk_at "sp 19") | (refine' ex3 h9e ?_; clear h9e; intro _ _ _ h9e; walk_at "sp 20") | (refine' ex2 h9e ?_; clear h9e; intro _ _ h9e; walk_at "sp 21") | (refine' ex1 h9e ?_; clear h9e; intro _ h9e; walk_at "sp 22") | (refine' and6 h9e ?_; clear h9e; intro _ _ _ _ _ h9e; walk_at "sp 18") | (refine' and4 h9e ?_; clear h9e; intro _ _ _ h9e; walk_at "sp 20") | (refine' and3 h9e ?_; clear h9e; intro _ _ h9e; walk_at "sp 21") | (refine' and2 h9e ?_; clear h9e; intro _ h9e; walk_at "sp 22") | (rcases h9e with ⟨_, _, _, _, _, _, _, _, _, _, _, _, _, _, _, _, _, _, _, _, _, _, _⟩)
  k_with "sp 24" => first | (refine' ex12 h9e ?_; clear h9e; intro _ _ _ _ _ _ _ _ _ _ _ _ h9e; walk_at "sp 12") | (refine' ex8 h9e ?_; clear h9e; intro _ _ _ _ _ _ _ _ h9e; walk_at "sp 16") | (refine' ex6 h9e ?_; clear h9e; intro _ _ _ _ _ _ h9e; walk_at "sp 18") | (refine' ex4 h9e ?_; clear h9e; intro _ _ _ _ h9e; walk_at "sp 20") | (refine' ex3 h9e ?_; clear h9e; intro _ _ _ h9e; walk_at "sp 21") | (refine' ex2 h9e ?_; clear h9e; intro _ _ h9e; walk_at "sp 22") | (refine' ex1 h9e ?_; clear h9e; intro _ h9e; walk_at "sp 23") | (refine' and6 h9e ?_; clear h9e; intro _ _ _ _ _ h9e; walk_at "sp 19") | (refine' and4 h9e ?_; clear h9e; intro _ _ _ h9e; walk_at "sp 21") | (refine' and3 h9e ?_; clear h9e; intro _ _ h9e; walk_at "sp 22") | (refine' and2 h9e ?_; clear h9e; intro _ h9e; walk_at "sp 23") | (rcases h9e with ⟨_, _, _, _, _, _, _, _, _, _, _, _, _, _, _, _, _, _, _, _, _, _, _, _⟩)
  k_with "sp 25" => first | (refine' ex12 h9e ?_; clear h9e; intro _ _ _ _ _ _ _ _ _ _ _ _ h9e; walk_at "sp 13") | (refine' ex8 h9e ?_; clear h9e; intro _ _ _ _ _ _ _ _ h9e; walk_at "sp 17") | (refine' ex6 h9e ?_; clear h9e; intro _ _ _ _ _ _ h9e; walk_at "sp 19") | (refine' ex4 h9e ?_; clear h9e; intro _ _ _ _ h9e; walk_at "sp 21") | (refine' ex3 h9e ?_; clear h9e; intro _ _ _ h9e; walk_at "sp 22") | (refine' ex2 h9e ?_; clear h9e; intro _ _ h9e; walk_at "sp 23") | (refine' ex1 h9e ?_; clear h9e; intro _ h9e; walk_at "sp 24") | (refine' and6 h9e ?_; clear h9e; intro _ _ _ _ _ h9e; walk_at "sp 20") | (refine' and4 h9e ?_; clear h9e; intro _ _ _ h9e; walk_at "sp 22") | (refine' and3 h9e ?_; clear h9e; intro _ _ h9e; walk_at "sp 23") | (refine' and2 h9e ?_; clear h9e; intro _ h9e; walk_at "sp 24") | (rcases h9e with ⟨_, _, _, _, _, _, _, _, _, _, _, _, _, _, _, _, _, _, _, _, _, _, _, _, _⟩)
  k_with "sp 26" => first | (refine' ex12 h9e ?_; clear h9e; intro _ _ _ _ _ _ _ _ _ _ _ _ h9e; walk_at "sp 14") | (refine' ex8 h9e ?_; clear h9e; intro _ _ _ _ _ _ _ _ h9e; walk_at "sp 18") | (refine' ex6 h9e ?_; clear h9e; intro _ _ _ _ _ _ h9e; walk_at "sp 20") | (refine' ex4 h9e ?_; clear h9e; intro _ _ _ _ h9e; walk_at "sp 22") | (refine' ex3 h9e ?_; clear h9e; intro _ _ _ h9e; walk_at "sp 23") | (refine' ex2 h9e ?_; clear h9e; intro _ _ h9e; walk_at "sp 24") | (refine' ex1 h9e ?_; clear h9e; intro _ h9e; walk_at "sp 25") | (refine' and6 h9e ?_; clear h9e; intro _ _ _ _ _ h9e; walk_at "sp 21") | (refine' and4 h9e ?_; clear h9e; intro _ _ _ h9e; walk_at "sp 23") | (refine' and3 h9e ?_; clear h9e; intro _ _ h9e; walk_at "sp 24") | (refine' and2 h9e ?_; clear h9e; intro _ h9e; walk_at "sp 25") | (rcases h9e with ⟨_, _, _, _, _, _, _, _, _, _, _, _, _, _, _, _, _, _, _, _, _, _, _, _, _, _⟩)
  trivial

/-- a post that the walk does not open -/
structure CutI (P : Prop) : Prop where out : P
theorem wcutF {α : Type} {M : Model} {A : Around} {t : Sem α} {Q : α → Shared → Prop} {E : Value → Shared → Prop} {s : Shared} {g h : Heap} {L : Addr} {M0 : Str → Option Value} (_F : Fr g L h M0)
    (Mid : (Str → Option Value) → α → Shared → Prop) (h1 : wpAny M A t (fun a s' => CutI (Mid M0 a s')) E s) (h2 : ∀ f s', Mid M0 f s' → Q f s') : wpAny M A t Q E s := wpAny_mono h1 (fun _ _ x => h2 _ _ x.out) (fun _ _ e => e)
theorem restL {M : Model} {A : Around} {l : List Stmt} {env : Env} {Q : Flow → Shared → Prop} {E : Value → Shared → Prop} {s : Shared} (h : ∀ r, r = l → wpAny M A (execs r env) Q E s) : wpAny M A (execs l env) Q E s := h l rfl
theorem newsSub {h₀ h : Heap} {L : Addr} {big small : List (Addr × Obj)} (N : News h₀ L h big) (hs : ∀ p ∈ small, p ∈ big) : News h₀ L h small := fun p hp => N p (hs p hp)

section
variable {prog : Program} {w : World} {A : Around} {s : Shared} {env : Env} {h₀ : Heap}
theorem codeX {R : Result → Shared → Prop} {x : Str} {px : Pos} {body : List Stmt} {I : Addr} {fp wr : List Addr} {n : Nat} {P : Nat → Value → Prop} {St : Nat → Heap → Prop} {m : Str → Option Value}
    {news : List (Addr × Obj)} (W : Walks prog w A I fp wr n P St)
    (hLf : env.locals ∉ fp) (hwr : ∀ b ∈ wr, h₀.get? b = none) (hnw : ∀ p ∈ news, p.1 ∉ wr)
    (hst : St 0 s.heap) (F : Fr h₀ env.locals s.heap m) (N : News h₀ env.locals s.heap news)
    (J : Nat → (Str → Option Value) → List (Addr × Obj) → Prop) (h0 : J 0 m news)
    (step : ∀ i v m₁ news₁ s₁ own, (∃ h tk, s₁ = { s with heap := h, toks := tk }) → i < n → P i v → J i m₁ news₁ → (∀ p ∈ news₁, p.1 ∉ wr) → (∀ p ∈ own, p.1 ∈ fp) → (∀ p ∈ own, s₁.heap.get? p.1 = some p.2) → (∀ b ∈ fp, h₀.get? b = none → ∀ o, s₁.heap.get? b = some o → (b, o) ∈ own) → St (i + 1) s₁.heap →
      Fr h₀ env.locals s₁.heap m₁ → News h₀ env.locals s₁.heap (own ++ news₁) →
      wpAny (model prog w) A (assign (.Name x px) env v) (fun _ s₃ => wpAny (model prog w) A (execs body env) (LoopStepV h₀ env.locals wr own (J (i + 1)) s₁ (fun v s' => R (.ok (.ret v)) s') fun s' => R (.ok .next) s') (notedBy (model prog w) A env fun e s' => R (.error e) s') s₃) (notedBy (model prog w) A env fun e s' => R (.error e) s') s₁)
    (hR : ∀ h' tk m' news', Fr h₀ env.locals h' m' → News h₀ env.locals h' news' → (∀ p ∈ news', p.1 ∉ wr) → J n m' news' → R (.ok .next) { s with heap := h', toks := tk }) :
    codeAny (model prog w) A (.forLoop (.Name x px) (.ref I) body [] env) R s := by
  have hLw : env.locals ∉ wr := fun h => hLf (W.sub _ h)
  have old : ∀ b o, h₀.get? b = some o → b ∉ wr := fun b o e hb => by rw [hwr b hb] at e; cases e
  refine codeAny_forLoop
    (fun k s' => ∃ h' tk m' news' i, s' = { s with heap := h', toks := tk } ∧ St i h' ∧ Fr h₀ env.locals h' m' ∧ News h₀ env.locals h' news' ∧ (∀ p ∈ news', p.1 ∉ wr) ∧ J i m' news' ∧ i ≤ n ∧ k = n + 1 - i) ?_ (n + 1)
    ⟨s.heap, s.toks, m, news, 0, rfl, hst, F, N, hnw, h0, Nat.zero_le _, rfl⟩
  intro k s' q9x1
  first | (refine' ex6 (q9x1) ?_; intro _ _ _ _ _ _ _ ) | (refine' ex4 (q9x1) ?_; intro _ _ _ _ h9e; walk_at "sp 3") | (refine' ex3 (q9x1) ?_; intro _ _ _ h9e; walk_at "sp 4") | (refine' ex2 (q9x1) ?_; intro _ _ h9e; walk_at "sp 5") | (refine' ex1 (q9x1) ?_; intro _ h9e; walk_at "sp 6") | (refine' and6 (q9x1) ?_; intro _ _ _ _ _ h9e; walk_at "sp 2") | (refine' and4 (q9x1) ?_; intro _ _ _ h9e; walk_at "sp 4") | (refine' and3 (q9x1) ?_; intro _ _ h9e; walk_at "sp 5") | (refine' and2 (q9x1) ?_; intro _ h9e; walk_at "sp 6") | (obtain ⟨_, _, _, _, _, _, _⟩ := q9x1)
  rename_i h' tk m' news' i e9x7 r9x8
  try (clear q9x1)
  subst e9x7
  first | (refine' ex6 (r9x8) ?_; intro _ _ _ _ _ _ _ ) | (refine' ex4 (r9x8) ?_; intro _ _ _ _ h9e; walk_at "sp 3") | (refine' ex3 (r9x8) ?_; intro _ _ _ h9e; walk_at "sp 4") | (refine' ex2 (r9x8) ?_; intro _ _ h9e; walk_at "sp 5") | (refine' ex1 (r9x8) ?_; intro _ h9e; walk_at "sp 6") | (refine' and6 (r9x8) ?_; intro _ _ _ _ _ h9e; walk_at "sp 2") | (refine' and4 (r9x8) ?_; intro _ _ _ h9e; walk_at "sp 4") | (refine' and3 (r9x8) ?_; intro _ _ h9e; walk_at "sp 5") | (refine' and2 (r9x8) ?_; intro _ h9e; walk_at "sp 6") | (obtain ⟨_, _, _, _, _, _, _⟩ := r9x8)
  rename_i hst' F' N' hnw' hJ hi e9x15
  try (clear r9x8)
  subst e9x15
  have next : ∀ h₁ : Heap, (∀ b o, b ∉ wr → h'.get? b = some o → h₁.get? b = some o) → Fr h₀ env.locals h₁ m' ∧ News h₀ env.locals h₁ news' := fun h₁ hk₁ =>
    ⟨⟨F'.ns.at' fun o e => hk₁ _ o hLw e, fun b o e => hk₁ b o (old b o e) (F'.keep b o e), F'.above⟩, fun p hp => ⟨hk₁ _ _ (hnw' p hp) (N' p hp).1, (N' p hp).2⟩⟩
  by_cases hlt : i < n
  · refine W.item i _ _ _ hlt hst' fun v h₁ tk₁ hP hst₁ hk₁ => ?_
    obtain ⟨F₁, N₁⟩ := next h₁ hk₁
    have Nown : News h₀ env.locals h₁ (ownOf h₀ fp h₁) := news_ownOf hLf
    refine wpAny_mono (step i v m' news' _ (ownOf h₀ fp h₁) ⟨_, _, rfl⟩ hlt hP hJ hnw' ownOf_sub (fun p hp => (Nown p hp).1) (fun b hb hn o e => mem_ownOf hb hn e) hst₁ F₁ (Nown.append N₁)) (fun _ s₃ p₃ => wpAny_mono p₃ (fun f s₃ h₃ => ?_) fun _ _ e => e) fun _ _ e => e
    have fin : LoopStepU h₀ env.locals wr (ownOf h₀ fp h₁) (J (i + 1)) { s with heap := h₁, toks := tk₁ } .next s₃ → ∃ k', k' < n + 1 - i ∧ ∃ h' tk m' news' i, s₃ = { s with heap := h', toks := tk } ∧ St i h' ∧ Fr h₀ env.locals h' m' ∧ News h₀ env.locals h' news' ∧ (∀ p ∈ news', p.1 ∉ wr) ∧ J i m' news' ∧ i ≤ n ∧ k' = n + 1 - i := by
      intro q9x16
      first | (refine' ex6 (q9x16) ?_; intro _ _ _ _ _ _ _ ) | (refine' ex4 (q9x16) ?_; intro _ _ _ _ h9e; walk_at "sp 3") | (refine' ex3 (q9x16) ?_; intro _ _ _ h9e; walk_at "sp 4") | (refine' ex2 (q9x16) ?_; intro _ _ h9e; walk_at "sp 5") | (refine' ex1 (q9x16) ?_; intro _ h9e; walk_at "sp 6") | (refine' and6 (q9x16) ?_; intro _ _ _ _ _ h9e; walk_at "sp 2") | (refine' and4 (q9x16) ?_; intro _ _ _ h9e; walk_at "sp 4") | (refine' and3 (q9x16) ?_; intro _ _ h9e; walk_at "sp 5") | (refine' and2 (q9x16) ?_; intro _ h9e; walk_at "sp 6") | (obtain ⟨_, _, _, _, _, _, _⟩ := q9x16)
      rename_i _ h₃' tk₃ m₂ news₂ e9x22 r9x23
      try (clear q9x16)
      subst e9x22
      first | (refine' ex3 (r9x23) ?_; intro _ _ _ _ ) | (refine' ex2 (r9x23) ?_; intro _ _ h9e; walk_at "sp 2") | (refine' ex1 (r9x23) ?_; intro _ h9e; walk_at "sp 3") | (refine' and4 (r9x23) ?_; intro _ _ _ _ ) | (refine' and3 (r9x23) ?_; intro _ _ h9e; walk_at "sp 2") | (refine' and2 (r9x23) ?_; intro _ h9e; walk_at "sp 3") | (obtain ⟨_, _, _, _⟩ := r9x23)
      rename_i F₃ N₃ ha₃ hJ₃
      try (clear r9x23)
      refine ⟨n + 1 - (i + 1), by omega, h₃', tk₃, m₂, news₂, i + 1, rfl, ?_, F₃, N₃.right, ha₃, hJ₃, hlt, rfl⟩
      refine W.frame _ _ _ hst₁ fun b hb o e => ?_
      cases hn : h₀.get? b with
      | some o₀ =>
        have : o₀ = o := by have := F₁.keep b o₀ hn; rw [e] at this; exact (Option.some.inj this).symm
        exact this ▸ F₃.keep b o₀ hn
      | none => exact (N₃ _ (List.mem_append_left _ (mem_ownOf hb hn e))).1
    cases f with
    | ret v => exact h₃
    | brk => exact h₃
    | cont => exact fin h₃
    | next => exact fin h₃
  · have hin : i = n := by omega
    subst hin
    refine W.done _ _ _ hst' fun h₁ tk₁ hk₁ => wpAny_execs_nil ?_
    obtain ⟨F₁, N₁⟩ := next h₁ hk₁
    exact hR h₁ tk₁ m' news' F₁ N₁ hnw' hJ
def LoopAtX (prog : Program) (w : World) (A : Around) (h₀ : Heap) (env : Env) (x : Str) (px : Pos) (body : List Stmt) (Q : Flow → Shared → Prop) (E : Value → Shared → Prop) (it : Value) (s₂ : Shared) : Prop :=
  ∃ (I : Addr) (fp wr : List Addr) (n : Nat) (P : Nat → Value → Prop) (St : Nat → Heap → Prop) (m : Str → Option Value) (news : List (Addr × Obj)) (J : Nat → (Str → Option Value) → List (Addr × Obj) → Prop),
    it = .ref I ∧ Walks prog w A I fp wr n P St ∧ env.locals ∉ fp ∧ (∀ b ∈ wr, h₀.get? b = none) ∧ (∀ p ∈ news, p.1 ∉ wr) ∧ St 0 s₂.heap ∧ Fr h₀ env.locals s₂.heap m ∧ News h₀ env.locals s₂.heap news ∧ J 0 m news ∧
    (∀ i v m₁ news₁ s₁ own, (∃ h tk, s₁ = { s₂ with heap := h, toks := tk }) → i < n → P i v → J i m₁ news₁ → (∀ p ∈ news₁, p.1 ∉ wr) → (∀ p ∈ own, p.1 ∈ fp) → (∀ p ∈ own, s₁.heap.get? p.1 = some p.2) → (∀ b ∈ fp, h₀.get? b = none → ∀ o, s₁.heap.get? b = some o → (b, o) ∈ own) → St (i + 1) s₁.heap →
      Fr h₀ env.locals s₁.heap m₁ → News h₀ env.locals s₁.heap (own ++ news₁) →
      wpAny (model prog w) A (assign (.Name x px) env v) (fun _ s₃ => wpAny (model prog w) A (execs body env) (LoopStepV h₀ env.locals wr own (J (i + 1)) s₁ (fun v s' => Q (.ret v) s') fun s' => Q .next s') E s₃) E s₁) ∧
    ∀ h' tk m' news', Fr h₀ env.locals h' m' → News h₀ env.locals h' news' → (∀ p ∈ news', p.1 ∉ wr) → J n m' news' → Q .next { s₂ with heap := h', toks := tk }
theorem For_invX {E : Value → Shared → Prop} {Q : Flow → Shared → Prop} {x : Str} {px : Pos} {pos : Pos} {iter : Expr} {body : List Stmt} (h₀ : Heap)
    (h : wpAny (model prog w) A (eval iter env) (fun xv s₁ => wpAny (model prog w) A (pyIter xv) (fun it s₂ => LoopAtX prog w A h₀ env x px body Q E it s₂) E s₁) E s)
    (hs : ∀ x, foldedSetIterable iter env x = pure x)
    (hE : PassesOwn (model prog w) A env E) :
    wpAny (model prog w) A (exec (.For (.Name x px) iter body [] pos) env) Q E s := by
  refine wpAny_For (wpAny_mono h (fun xv s₁ h₁ => wpAny_mono h₁ (fun it s₂ h₂ => ?_) fun _ _ e => e) fun _ _ e => e) hs
  first | (refine' ex8 (h₂) ?_; intro _ _ _ _ _ _ _ _ h9e; walk_at "sp 3") | (refine' ex6 (h₂) ?_; intro _ _ _ _ _ _ h9e; walk_at "sp 5") | (refine' ex4 (h₂) ?_; intro _ _ _ _ h9e; walk_at "sp 7") | (refine' ex3 (h₂) ?_; intro _ _ _ h9e; walk_at "sp 8") | (refine' ex2 (h₂) ?_; intro _ _ h9e; walk_at "sp 9") | (refine' ex1 (h₂) ?_; intro _ h9e; walk_at "sp 10") | (refine' and6 (h₂) ?_; intro _ _ _ _ _ h9e; walk_at "sp 6") | (refine' and4 (h₂) ?_; intro _ _ _ h9e; walk_at "sp 8") | (refine' and3 (h₂) ?_; intro _ _ h9e; walk_at "sp 9") | (refine' and2 (h₂) ?_; intro _ h9e; walk_at "sp 10") | (obtain ⟨_, _, _, _, _, _, _, _, _, _, _⟩ := h₂)
  rename_i I fp wr n P St m news J e9x37 r9x38
  try (clear h₂)
  subst e9x37
  first | (refine' ex8 (r9x38) ?_; intro _ _ _ _ _ _ _ _ h9e; walk_at "sp 2") | (refine' ex6 (r9x38) ?_; intro _ _ _ _ _ _ h9e; walk_at "sp 4") | (refine' ex4 (r9x38) ?_; intro _ _ _ _ h9e; walk_at "sp 6") | (refine' ex3 (r9x38) ?_; intro _ _ _ h9e; walk_at "sp 7") | (refine' ex2 (r9x38) ?_; intro _ _ h9e; walk_at "sp 8") | (refine' ex1 (r9x38) ?_; intro _ h9e; walk_at "sp 9") | (refine' and6 (r9x38) ?_; intro _ _ _ _ _ h9e; walk_at "sp 5") | (refine' and4 (r9x38) ?_; intro _ _ _ h9e; walk_at "sp 7") | (refine' and3 (r9x38) ?_; intro _ _ h9e; walk_at "sp 8") | (refine' and2 (r9x38) ?_; intro _ h9e; walk_at "sp 9") | (obtain ⟨_, _, _, _, _, _, _, _, _, _⟩ := r9x38)
  rename_i W hLf hwr hnw hst F N h0 step hQ
  try (clear r9x38)
  exact codeX (R := fun r s' => match r with | .ok f => Q f s' | .error e => cameBackBy (model prog w) A env E e s') W hLf hwr hnw hst F N J h0 (by intros; exact wpAny_passesOwn hE (wpAny_mono (by apply step <;> assumption) (fun _ _ p => wpAny_passesOwn hE p) fun _ _ e => e)) hQ
end
section
variable {prog : Program} {w : World} {A : Around} {E : Value → Shared → Prop} {s : Shared} {env : Env} {h₀ : Heap} {x : Str} {px : Pos} {body : List Stmt} {Q : Flow → Shared → Prop}
def ItEndR (h₀ : Heap) (L I : Addr) (oI : Obj) (J : (Str → Option Value) → List (Addr × Obj) → Prop) (s₁ s₂ : Shared) : Prop :=
  ∃ h' tk m' nx, s₂ = { s₁ with heap := h', toks := tk } ∧ Fr h₀ L h' m' ∧ News h₀ L h' ((I, oI) :: nx) ∧ (∀ p ∈ nx, @Ne Nat p.1 I) ∧ J m' nx
def ItPostR (h₀ : Heap) (L I : Addr) (oI : Obj) (J : (Str → Option Value) → List (Addr × Obj) → Prop) (s₁ : Shared) (Q : Flow → Shared → Prop) (f : Flow) (s₂ : Shared) : Prop :=
  match f with
  | .ret v => Q (.ret v) s₂
  | .brk => Q .next s₂
  | _ => CutI (ItEndR h₀ L I oI J s₁ s₂)
theorem pairEq {h : Heap} {p : Addr × Obj} {o : Obj} (e1 : h.get? p.1 = some p.2) (e2 : h.get? p.1 = some o) : p = (p.1, o) := by
  rw [e1] at e2
  exact Option.some.inj e2 ▸ rfl
theorem iterG {oI₀ : Obj} {fp : List Addr} {n : Nat} {P : Nat → Value → Prop} {St : Nat → Heap → Prop} {m₀ : Str → Option Value} {nx₀ : List (Addr × Obj)} (J : Nat → (Str → Option Value) → List (Addr × Obj) → Prop)
    (W : Walks prog w A s.heap.objs.size fp [s.heap.objs.size] n P St) (hst : St 0 (s.heap.push oI₀)) (hSt : ∀ i h, St i h → ∃ o, h.get? s.heap.objs.size = some o)
    (hfp : ∀ b ∈ fp, b = s.heap.objs.size ∨ ∃ o, ∀ i m nx, J i m nx → (b, o) ∈ nx)
    (F : Fr h₀ env.locals s.heap m₀) (N : News h₀ env.locals s.heap nx₀) (hj : J 0 m₀ nx₀)
    (turn : ∀ i v m₁ nx h tk oI, i < n → P i v → (∀ p ∈ nx, @Ne Nat p.1 s.heap.objs.size) → J i m₁ nx → Fr h₀ env.locals h m₁ → News h₀ env.locals h ((s.heap.objs.size, oI) :: nx) →
      wpAny (model prog w) A (assign (.Name x px) env v) (fun _ s₃ => wpAny (model prog w) A (execs body env) (ItPostR h₀ env.locals s.heap.objs.size oI (J (i + 1)) { s with heap := h, toks := tk } Q) E s₃) E { s with heap := h, toks := tk })
    (done : ∀ m₁ nx h tk, J n m₁ nx → Fr h₀ env.locals h m₁ → News h₀ env.locals h nx → Q .next { s with heap := h, toks := tk }) :
    LoopAtX prog w A h₀ env x px body Q E (.ref s.heap.objs.size) { s with heap := s.heap.push oI₀ } := by
  have hI := next_is_new F
  refine ⟨_, _, _, n, _, _, m₀, nx₀, J, rfl, W, fun hm => ?_, fun b hb => ?_, fun p hp he => ?_, hst, F.push _, (fun p hp => ⟨Heap.get?_push_of_some _ (N p hp).1, (N p hp).2⟩), hj, ?_, fun h' tk m' nx F N _ hJ => done m' nx h' tk hJ F N⟩
  · rcases hfp _ hm with e | e
    · exact absurd F.ns.lt (e ▸ Nat.lt_irrefl _)
    · obtain ⟨o, e⟩ := e
      exact (N _ (e _ _ _ hj)).2.1 rfl
  · rw [List.mem_singleton.mp hb]
    exact hI
  · exact absurd (Heap.lt_size (N p hp).1) ((List.mem_singleton.mp he) ▸ Nat.lt_irrefl _)
  · intro i v m₁ nx s₁ own hs₁ hin hP hJ hoff hown hst' hmem hSt' F₁ N₁
    obtain ⟨hh', tk', rfl⟩ := hs₁
    obtain ⟨oI, hoi⟩ := hSt _ _ hSt'
    have N₂ : News h₀ env.locals hh' ((s.heap.objs.size, oI) :: nx) := by
      refine List.forall_mem_cons.mpr ⟨N₁ _ (List.mem_append.mpr (.inl (hmem _ (W.sub _ (.head _)) hI _ hoi))), fun p hp => N₁ _ (List.mem_append.mpr (.inr hp))⟩
    refine wpAny_mono (turn i v m₁ nx hh' tk' oI hin hP (fun p hp e => hoff p hp (by rw [e]; exact .head _)) hJ F₁ N₂) (fun _ s₃ p₃ => wpAny_mono p₃ (fun f s₂ p => ?_) fun _ _ e => e) fun _ _ e => e
    have fin : ItEndR h₀ env.locals s.heap.objs.size oI (J (i + 1)) { s with heap := hh', toks := tk' } s₂ → LoopStepU h₀ env.locals [s.heap.objs.size] own (J (i + 1)) { s with heap := hh', toks := tk' } .next s₂ := by
      intro hx
      first | (refine' ex8 (hx) ?_; intro _ _ _ _ _ _ _ _ _ ) | (refine' ex6 (hx) ?_; intro _ _ _ _ _ _ h9e; walk_at "sp 3") | (refine' ex4 (hx) ?_; intro _ _ _ _ h9e; walk_at "sp 5") | (refine' ex3 (hx) ?_; intro _ _ _ h9e; walk_at "sp 6") | (refine' ex2 (hx) ?_; intro _ _ h9e; walk_at "sp 7") | (refine' ex1 (hx) ?_; intro _ h9e; walk_at "sp 8") | (refine' and6 (hx) ?_; intro _ _ _ _ _ h9e; walk_at "sp 4") | (refine' and4 (hx) ?_; intro _ _ _ h9e; walk_at "sp 6") | (refine' and3 (hx) ?_; intro _ _ h9e; walk_at "sp 7") | (refine' and2 (hx) ?_; intro _ h9e; walk_at "sp 8") | (obtain ⟨_, _, _, _, _, _, _, _, _⟩ := hx)
      rename_i h' tk m' nx' e F' N' ho' hm
      try (clear hx)
      refine ⟨rfl, h', tk, m', nx', e, F', fun p hp => ?_, fun p hp hq => ho' p hp (List.mem_singleton.mp hq), hm⟩
      rcases List.mem_append.mp hp with hp | hp
      · have e1 := hst' p hp
        rcases hfp _ (hown p hp) with h1 | h1
        · rw [pairEq e1 (h1 ▸ hoi), h1]; exact N' _ (.head _)
        · obtain ⟨o, h1⟩ := h1
          rw [pairEq e1 (N₂ _ (.tail _ (h1 _ _ _ hJ))).1]
          exact N' _ (.tail _ (h1 _ _ _ hm))
      · exact N' p (.tail _ hp)
    cases f with
    | ret v => exact .ret p
    | brk => exact .brk p
    | next => exact .next (fin p.out)
    | cont => exact .cont (fin p.out)
theorem atL {M : Model} {v : Value} {m : Str → Option Value} {R : Shared → Prop} {nx : List (Addr × Obj)} (hx : env.kindOf x = some .local) (hp : (env.scope.kind == .class || (env.scope.kind == .module && env.locals != env.globals)) = false)
    (F : Fr h₀ env.locals s.heap m) (N : News h₀ env.locals s.heap nx) (h : ∀ h' tk, Fr h₀ env.locals h' (fun y => if y = x then some v else m y) → News h₀ env.locals h' nx → R { s with heap := h', toks := tk }) :
    wpAny M A (assign (.Name x px) env v) (fun _ s₃ => R s₃) E s :=
  wpAny_assign_Name (wpAny_storeName_local hx F.ns (fun _ hn hs => h _ _ (F.set hn hs) (N.set hs)) hp)
theorem iterRX {r : Addr} {a b : Int} {t u v : Tok} {n : Nat} {m₀ : Str → Option Value} {nx₀ : List (Addr × Obj)} (J : Nat → (Str → Option Value) → List (Addr × Obj) → Prop)
    (hh : A.handled = none) (F : Fr h₀ env.locals s.heap m₀) (N : News h₀ env.locals s.heap nx₀) (hr : IsRange s.heap r a b 1 t u v) (hsm : Builtin.Range.small a b 1 = true) (hn : Builtin.Range.rangeSize a b 1 = ((n : Nat) : Int)) (hj : J 0 m₀ nx₀)
    (turn : ∀ (i : Nat) tv m₁ nx h tk I oI, i < n → (∀ p ∈ nx, @Ne Nat p.1 I) → J i m₁ nx → Fr h₀ env.locals h m₁ → News h₀ env.locals h ((I, oI) :: nx) →
      wpAny (model prog w) A (assign (.Name x px) env (.int (a + (i : Int)) tv)) (fun _ s₃ => wpAny (model prog w) A (execs body env) (ItPostR h₀ env.locals I oI (J (i + 1)) { s with heap := h, toks := tk } Q) E s₃) E { s with heap := h, toks := tk })
    (done : ∀ m₁ nx h tk, J n m₁ nx → Fr h₀ env.locals h m₁ → News h₀ env.locals h nx → Q .next { s with heap := h, toks := tk }) :
    wpAny (model prog w) A (pyIter (.ref r)) (fun it s₂ => LoopAtX prog w A h₀ env x px body Q E it s₂) E s := by
  refine wpAny_pyIter_range hr hsm (iterG J (LCg.range_walks hh a n) (by show IsRangeIter _ _ _ _ _; rw [hn]; simpa using Heap.get?_push_size _ rfl) (fun i h e => ⟨_, e⟩) (fun b hb => .inl (List.mem_singleton.mp hb)) F N hj ?_ done)
  intro i v m₁ nx h tk oI hi hP
  obtain ⟨tv, rfl⟩ := hP
  exact turn i tv m₁ nx h tk _ oI hi
theorem iterR {r : Addr} {a b : Int} {t u v : Tok} {n : Nat} {m₀ : Str → Option Value} {nx₀ : List (Addr × Obj)} (J : Nat → (Str → Option Value) → List (Addr × Obj) → Prop)
    (hx : env.kindOf x = some .local) (hp : (env.scope.kind == .class || (env.scope.kind == .module && env.locals != env.globals)) = false)
    (hh : A.handled = none) (F : Fr h₀ env.locals s.heap m₀) (N : News h₀ env.locals s.heap nx₀) (hr : IsRange s.heap r a b 1 t u v) (hsm : Builtin.Range.small a b 1 = true) (hn : Builtin.Range.rangeSize a b 1 = ((n : Nat) : Int)) (hj : J 0 m₀ nx₀)
    (turn : ∀ (i : Nat) tv m₁ nx h tk I oI, i < n → (∀ p ∈ nx, @Ne Nat p.1 I) → J i m₁ nx → Fr h₀ env.locals h (fun y => if y = x then some (.int (a + (i : Int)) tv) else m₁ y) → News h₀ env.locals h ((I, oI) :: nx) →
      wpAny (model prog w) A (execs body env) (ItPostR h₀ env.locals I oI (J (i + 1)) { s with heap := h, toks := tk } Q) E { s with heap := h, toks := tk })
    (done : ∀ m₁ nx h tk, J n m₁ nx → Fr h₀ env.locals h m₁ → News h₀ env.locals h nx → Q .next { s with heap := h, toks := tk }) :
    wpAny (model prog w) A (pyIter (.ref r)) (fun it s₂ => LoopAtX prog w A h₀ env x px body Q E it s₂) E s :=
  iterRX J hh F N hr hsm hn hj (fun i tv m₁ nx h tk I oI hi ho hJ F N => atL hx hp F N fun h' tk' F' N' => turn i tv m₁ nx h' tk' I oI hi ho hJ F' N') done
/-- a loop over a list of the ledger; `g` makes the ledger of the part that the turns change -/
def ItEndG (h₀ : Heap) (L I l : Addr) (oI : Obj) (g : List (Addr × Obj) → List (Addr × Obj)) (J : (Str → Option Value) → List (Addr × Obj) → Prop) (s₁ s₂ : Shared) : Prop :=
  ∃ h' tk m' nx, s₂ = { s₁ with heap := h', toks := tk } ∧ Fr h₀ L h' m' ∧ News h₀ L h' ((I, oI) :: g nx) ∧ (∀ p ∈ nx, @Ne Nat p.1 I ∧ @Ne Nat p.1 l) ∧ J m' nx
def ItPostG (h₀ : Heap) (L I l : Addr) (oI : Obj) (g : List (Addr × Obj) → List (Addr × Obj)) (J : (Str → Option Value) → List (Addr × Obj) → Prop) (s₁ : Shared) (Q : Flow → Shared → Prop) (f : Flow) (s₂ : Shared) : Prop :=
  match f with
  | .ret v => Q (.ret v) s₂
  | .brk => Q .next s₂
  | _ => CutI (ItEndG h₀ L I l oI g J s₁ s₂)
theorem iterH {l : Addr} {vs : List Value} {k : Nat} {m₀ : Str → Option Value} {nx₀ : List (Addr × Obj)} (g : List (Addr × Obj) → List (Addr × Obj)) (hgl : ∀ nx, (l, listOf vs.toArray k) ∈ g nx) (hg1 : ∀ nx p, p ∈ nx → p ∈ g nx) (hg2 : ∀ nx p, p ∈ g nx → p ∈ nx ∨ ∀ nx', p ∈ g nx')
    (J : Nat → (Str → Option Value) → List (Addr × Obj) → Prop)
    (hx : env.kindOf x = some .local) (hp : (env.scope.kind == .class || (env.scope.kind == .module && env.locals != env.globals)) = false)
    (hh : A.handled = none) (F : Fr h₀ env.locals s.heap m₀) (N : News h₀ env.locals s.heap (g nx₀)) (hoff : ∀ p ∈ nx₀, @Ne Nat p.1 l) (hj : J 0 m₀ nx₀)
    (turn : ∀ i v m₁ nx h tk I oI, vs[i]? = some v → @Ne Nat I l → (∀ p ∈ nx, @Ne Nat p.1 I ∧ @Ne Nat p.1 l) → (∀ p ∈ g nx, @Ne Nat p.1 I) → J i m₁ nx → Fr h₀ env.locals h (fun y => if y = x then some v else m₁ y) → News h₀ env.locals h ((I, oI) :: g nx) →
      wpAny (model prog w) A (execs body env) (ItPostG h₀ env.locals I l oI g (J (i + 1)) { s with heap := h, toks := tk } Q) E { s with heap := h, toks := tk })
    (done : ∀ m₁ nx h tk, J vs.length m₁ nx → Fr h₀ env.locals h m₁ → News h₀ env.locals h (g nx) → (∀ p ∈ nx, @Ne Nat p.1 l) → Q .next { s with heap := h, toks := tk }) :
    wpAny (model prog w) A (pyIter (.ref l)) (fun it s₂ => LoopAtX prog w A h₀ env x px body Q E it s₂) E s := by
  have hlN := N _ (hgl _)
  have hls : s.heap.IsList l vs.toArray := ⟨_, hlN.1, rfl, k, rfl⟩
  have W := Walks.list (prog := prog) (w := w) hh s.heap.objs.size l (Nat.ne_of_lt (Heap.lt_size hlN.1)) vs.toArray
  rw [List.size_toArray] at W
  refine wpAny_pyIter_list hls (iterG (fun i m nx' => ∃ nx, nx' = g nx ∧ (∀ p ∈ nx, @Ne Nat p.1 l) ∧ J i m nx) W ⟨⟨_, Heap.get?_push_size _ rfl, rfl, rfl⟩, hls.at fun o e => Heap.get?_push_of_some _ e⟩ (fun i h e => ?_) (fun b hb => ?_) F N ⟨nx₀, rfl, hoff, hj⟩ ?_ ?_)
  · obtain ⟨o, e, _⟩ := e.1
    exact ⟨o, e⟩
  · rcases List.mem_cons.mp hb with e | e
    · exact .inl e
    · rw [List.mem_singleton.mp e]
      refine .inr ⟨listOf vs.toArray k, fun i m nx hJ => ?_⟩
      obtain ⟨nx, rfl, _⟩ := hJ
      exact hgl nx
  · intro i v m₁ nx' h tk oI hi hP ho hJ F N
    first | (refine' ex2 (hJ) ?_; intro _ _ _ ) | (refine' ex1 (hJ) ?_; intro _ h9e; walk_at "sp 2") | (refine' and3 (hJ) ?_; intro _ _ _ ) | (refine' and2 (hJ) ?_; intro _ h9e; walk_at "sp 2") | (obtain ⟨_, _, _⟩ := hJ)
    rename_i nx e9x59 r9x60
    try (clear hJ)
    subst e9x59
    obtain ⟨ho', hJ⟩ := r9x60
    refine atL hx hp F N fun h' tk' F' N' => wpAny_mono (turn i v m₁ nx h' tk' _ oI (by simpa using hP) (fun e => ho _ (hgl nx) e.symm) (fun p hp => ⟨ho p (hg1 _ _ hp), ho' p hp⟩) ho hJ F' N') (fun f s₂ p => ?_) fun _ _ e => e
    have fin : ItEndG h₀ env.locals s.heap.objs.size l oI g (J (i + 1)) { s with heap := h', toks := tk' } s₂ → ItEndR h₀ env.locals s.heap.objs.size oI (fun m nx' => ∃ nx, nx' = g nx ∧ (∀ p ∈ nx, @Ne Nat p.1 l) ∧ J (i + 1) m nx) { s with heap := h, toks := tk } s₂ := by
      intro hx
      first | (refine' ex8 (hx) ?_; intro _ _ _ _ _ _ _ _ _ ) | (refine' ex6 (hx) ?_; intro _ _ _ _ _ _ h9e; walk_at "sp 3") | (refine' ex4 (hx) ?_; intro _ _ _ _ h9e; walk_at "sp 5") | (refine' ex3 (hx) ?_; intro _ _ _ h9e; walk_at "sp 6") | (refine' ex2 (hx) ?_; intro _ _ h9e; walk_at "sp 7") | (refine' ex1 (hx) ?_; intro _ h9e; walk_at "sp 8") | (refine' and6 (hx) ?_; intro _ _ _ _ _ h9e; walk_at "sp 4") | (refine' and4 (hx) ?_; intro _ _ _ h9e; walk_at "sp 6") | (refine' and3 (hx) ?_; intro _ _ h9e; walk_at "sp 7") | (refine' and2 (hx) ?_; intro _ h9e; walk_at "sp 8") | (obtain ⟨_, _, _, _, _, _, _, _, _⟩ := hx)
      rename_i h2 tk2 m2 nx2 e F2 N2 o2 j2
      try (clear hx)
      refine ⟨h2, tk2, m2, g nx2, e, F2, N2, fun p hp => ?_, nx2, rfl, fun p hp => (o2 p hp).2, j2⟩
      rcases hg2 _ _ hp with e | e
      · exact (o2 p e).1
      · exact ho p (e _)
    cases f with
    | ret v => exact p
    | brk => exact p
    | next => exact ⟨fin p.out⟩
    | cont => exact ⟨fin p.out⟩
  · intro m₁ nx' h tk hJ F N
    first | (refine' ex2 (hJ) ?_; intro _ _ _ ) | (refine' ex1 (hJ) ?_; intro _ h9e; walk_at "sp 2") | (refine' and3 (hJ) ?_; intro _ _ _ ) | (refine' and2 (hJ) ?_; intro _ h9e; walk_at "sp 2") | (obtain ⟨_, _, _⟩ := hJ)
    rename_i nx e9x71 r9x72
    try (clear hJ)
    subst e9x71
    obtain ⟨ho, hJ⟩ := r9x72
    exact done m₁ nx h tk hJ F N ho
def ItEnd (h₀ : Heap) (L I l : Addr) (oI oL : Obj) (J : (Str → Option Value) → List (Addr × Obj) → Prop) (s₁ s₂ : Shared) : Prop :=
  ∃ h' tk m' nx, s₂ = { s₁ with heap := h', toks := tk } ∧ Fr h₀ L h' m' ∧ News h₀ L h' ((I, oI) :: (l, oL) :: nx) ∧ (∀ p ∈ nx, @Ne Nat p.1 I ∧ @Ne Nat p.1 l) ∧ J m' nx
def ItPost (h₀ : Heap) (L I l : Addr) (oI oL : Obj) (J : (Str → Option Value) → List (Addr × Obj) → Prop) (s₁ : Shared) (Q : Flow → Shared → Prop) (f : Flow) (s₂ : Shared) : Prop :=
  match f with
  | .ret v => Q (.ret v) s₂
  | .brk => Q .next s₂
  | _ => CutI (ItEnd h₀ L I l oI oL J s₁ s₂)
theorem iterL {l : Addr} {vs : List Value} {k : Nat} {m₀ : Str → Option Value} {nx₀ : List (Addr × Obj)} (J : Nat → (Str → Option Value) → List (Addr × Obj) → Prop)
    (hx : env.kindOf x = some .local) (hp : (env.scope.kind == .class || (env.scope.kind == .module && env.locals != env.globals)) = false)
    (hh : A.handled = none) (F : Fr h₀ env.locals s.heap m₀) (N : News h₀ env.locals s.heap ((l, listOf vs.toArray k) :: nx₀)) (hoff : ∀ p ∈ nx₀, @Ne Nat p.1 l) (hj : J 0 m₀ nx₀)
    (turn : ∀ i v m₁ nx h tk I oI, vs[i]? = some v → @Ne Nat I l → (∀ p ∈ nx, @Ne Nat p.1 I ∧ @Ne Nat p.1 l) → J i m₁ nx → Fr h₀ env.locals h (fun y => if y = x then some v else m₁ y) → News h₀ env.locals h ((I, oI) :: (l, listOf vs.toArray k) :: nx) →
      wpAny (model prog w) A (execs body env) (ItPost h₀ env.locals I l oI (listOf vs.toArray k) (J (i + 1)) { s with heap := h, toks := tk } Q) E { s with heap := h, toks := tk })
    (done : ∀ m₁ nx h tk, J vs.length m₁ nx → Fr h₀ env.locals h m₁ → News h₀ env.locals h ((l, listOf vs.toArray k) :: nx) → (∀ p ∈ nx, @Ne Nat p.1 l) → Q .next { s with heap := h, toks := tk }) :
    wpAny (model prog w) A (pyIter (.ref l)) (fun it s₂ => LoopAtX prog w A h₀ env x px body Q E it s₂) E s :=
  iterH (fun nx => (l, listOf vs.toArray k) :: nx) (fun _ => .head _) (fun _ _ h => .tail _ h) (fun nx p h => (List.mem_cons.mp h).elim (fun e => .inr fun _ => e ▸ .head _) .inl) J hx hp hh F N hoff hj
    (fun i v m₁ nx h tk I oI hv hI ho _ hJ F N => turn i v m₁ nx h tk I oI hv hI ho hJ F N) done
end
section
variable {prog : Program} {w : World} {A : Around} {s : Shared} {h₀ : Heap} {L : Addr} {m : Str → Option Value} {env : Env} {ct elt : Expr} {x : Str} {scope : Scope} {cl : List (Str × Addr)} {S : List (Addr × Obj) → Prop} {P : Nat → Value → Prop} {Fin : List Value → List (Addr × Obj) → Prop}
/-- a comprehension with one test, of any length, by what holds of the turns taken -/
theorem compT {n : Nat} {news : List (Addr × Obj)} (Inv : Nat → List Value → List (Addr × Obj) → Prop) (h0 : Inv 0 [] news)
    (step : ∀ i ys nw, i < n → Inv i ys nw → ∀ v I oI C oC D m₂ h tk (E' : Value → Shared → Prop), P i v → LCg.NsObj oC m₂ → m₂ x = some v → Fr h₀ L h m → News h₀ L h ((I, oI) :: (C, oC) :: (D, LCg.lst ys) :: nw) → LCg.Off3 I C D nw → ((@Ne Nat I C) ∧ (@Ne Nat I D) ∧ (@Ne Nat C D)) →
      wpAny (model prog w) A (isTrue ct (compEnvC scope cl C env) (eval ct (compEnvC scope cl C env))) (fun ok s' => if ok = true then
        wpAny (model prog w) A (eval elt (compEnvC scope cl C env)) (LCg.CompEnd h₀ L m { s with heap := h, toks := tk } I oI C oC D (LCg.lst ys) S (fun y nw' => Inv (i + 1) (ys ++ [y]) nw')) E' s'
        else LCg.CompEnd h₀ L m { s with heap := h, toks := tk } I oI C oC D (LCg.lst ys) S (fun _ nw' => Inv (i + 1) ys nw') Value.none s') E' { s with heap := h, toks := tk })
    (fin : ∀ ys nw, Inv n ys nw → Fin ys nw) : LCt.CompRestT prog w A h₀ L m env ct elt x scope cl s S P Fin n 0 [] news := by
  have key : ∀ (j i : Nat) (ys : List Value) nw, i + j = n → Inv i ys nw → LCt.CompRestT prog w A h₀ L m env ct elt x scope cl s S P Fin j i ys nw := by
    intro j
    induction j with
    | zero =>
      intro i ys nw hi hy
      obtain rfl : i = n := by omega
      exact LCt.CompRestT.zero (fin ys nw hy)
    | succ j ih =>
      intro i ys nw hi hy
      refine LCt.CompRestT.succ ?_
      intro v I oI C oC D m₂ h tk E' hv hC hx F N off ne
      refine wpAny_mono (step i ys nw (by omega) hy v I oI C oC D m₂ h tk E' hv hC hx F N off ne) (fun ok s₂ hq => ?_) fun _ _ e => e
      cases ok with
      | true =>
        simp only [if_true] at hq ⊢
        refine wpAny_mono hq (fun y s₃ hq => ?_) fun _ _ e => e
        first | (refine' ex8 (hq) ?_; intro _ _ _ _ _ _ _ _ _ ) | (refine' ex6 (hq) ?_; intro _ _ _ _ _ _ h9e; walk_at "sp 3") | (refine' ex4 (hq) ?_; intro _ _ _ _ h9e; walk_at "sp 5") | (refine' ex3 (hq) ?_; intro _ _ _ h9e; walk_at "sp 6") | (refine' ex2 (hq) ?_; intro _ _ h9e; walk_at "sp 7") | (refine' ex1 (hq) ?_; intro _ h9e; walk_at "sp 8") | (refine' and6 (hq) ?_; intro _ _ _ _ _ h9e; walk_at "sp 4") | (refine' and4 (hq) ?_; intro _ _ _ h9e; walk_at "sp 6") | (refine' and3 (hq) ?_; intro _ _ h9e; walk_at "sp 7") | (refine' and2 (hq) ?_; intro _ h9e; walk_at "sp 8") | (obtain ⟨_, _, _, _, _, _, _, _, _⟩ := hq)
        rename_i h' tk' nw' e F' N' off' hS hr
        try (clear hq)
        exact ⟨h', tk', nw', e, F', N', off', hS, ih (i + 1) _ nw' (by omega) hr⟩
      | false =>
        simp only [Bool.false_eq_true, if_false] at hq ⊢
        first | (refine' ex8 (hq) ?_; intro _ _ _ _ _ _ _ _ _ ) | (refine' ex6 (hq) ?_; intro _ _ _ _ _ _ h9e; walk_at "sp 3") | (refine' ex4 (hq) ?_; intro _ _ _ _ h9e; walk_at "sp 5") | (refine' ex3 (hq) ?_; intro _ _ _ h9e; walk_at "sp 6") | (refine' ex2 (hq) ?_; intro _ _ h9e; walk_at "sp 7") | (refine' ex1 (hq) ?_; intro _ h9e; walk_at "sp 8") | (refine' and6 (hq) ?_; intro _ _ _ _ _ h9e; walk_at "sp 4") | (refine' and4 (hq) ?_; intro _ _ _ h9e; walk_at "sp 6") | (refine' and3 (hq) ?_; intro _ _ h9e; walk_at "sp 7") | (refine' and2 (hq) ?_; intro _ h9e; walk_at "sp 8") | (obtain ⟨_, _, _, _, _, _, _, _, _⟩ := hq)
        rename_i h' tk' nw' e F' N' off' hS hr
        try (clear hq)
        exact ⟨h', tk', nw', e, F', N', off', hS, ih (i + 1) _ nw' (by omega) hr⟩
  exact key n 0 [] news (by omega) h0
/-- a comprehension without a test, of any length -/
theorem compU {n : Nat} {news : List (Addr × Obj)} (Inv : Nat → List Value → List (Addr × Obj) → Prop) (h0 : Inv 0 [] news)
    (step : ∀ i ys nw, i < n → Inv i ys nw → ∀ v I oI C oC D m₂ h tk (E' : Value → Shared → Prop), P i v → LCg.NsObj oC m₂ → m₂ x = some v → Fr h₀ L h m → News h₀ L h ((I, oI) :: (C, oC) :: (D, LCg.lst ys) :: nw) → LCg.Off3 I C D nw → ((@Ne Nat I C) ∧ (@Ne Nat I D) ∧ (@Ne Nat C D)) →
      wpAny (model prog w) A (eval elt (compEnvC scope cl C env)) (LCg.CompEnd h₀ L m { s with heap := h, toks := tk } I oI C oC D (LCg.lst ys) S (fun y nw' => Inv (i + 1) (ys ++ [y]) nw')) E' { s with heap := h, toks := tk })
    (fin : ∀ ys nw, Inv n ys nw → Fin ys nw) : LCg.CompRest prog w A h₀ L m env elt x scope cl s S P Fin n 0 [] news := by
  have key : ∀ (j i : Nat) (ys : List Value) nw, i + j = n → Inv i ys nw → LCg.CompRest prog w A h₀ L m env elt x scope cl s S P Fin j i ys nw := by
    intro j
    induction j with
    | zero =>
      intro i ys nw hi hy
      obtain rfl : i = n := by omega
      exact LCg.CompRest.zero (fin ys nw hy)
    | succ j ih =>
      intro i ys nw hi hy
      refine LCg.CompRest.succ ?_
      intro v I oI C oC D m₂ h tk E' hv hC hx F N off ne
      refine wpAny_mono (step i ys nw (by omega) hy v I oI C oC D m₂ h tk E' hv hC hx F N off ne) (fun y s₂ hq => ?_) fun _ _ e => e
      first | (refine' ex8 (hq) ?_; intro _ _ _ _ _ _ _ _ _ ) | (refine' ex6 (hq) ?_; intro _ _ _ _ _ _ h9e; walk_at "sp 3") | (refine' ex4 (hq) ?_; intro _ _ _ _ h9e; walk_at "sp 5") | (refine' ex3 (hq) ?_; intro _ _ _ h9e; walk_at "sp 6") | (refine' ex2 (hq) ?_; intro _ _ h9e; walk_at "sp 7") | (refine' ex1 (hq) ?_; intro _ h9e; walk_at "sp 8") | (refine' and6 (hq) ?_; intro _ _ _ _ _ h9e; walk_at "sp 4") | (refine' and4 (hq) ?_; intro _ _ _ h9e; walk_at "sp 6") | (refine' and3 (hq) ?_; intro _ _ h9e; walk_at "sp 7") | (refine' and2 (hq) ?_; intro _ h9e; walk_at "sp 8") | (obtain ⟨_, _, _, _, _, _, _, _, _⟩ := hq)
      rename_i h' tk' nw' e F' N' off' hS hr
      try (clear hq)
      exact ⟨h', tk', nw', e, F', N', off', hS, ih (i + 1) _ nw' (by omega) hr⟩
  exact key n 0 [] news (by omega) h0
theorem compTr {n : Nat} {news : List (Addr × Obj)} (Inv : Nat → List Value → Prop) (h0 : Inv 0 [])
    (step : ∀ i ys, i < n → Inv i ys → ∀ v I oI C oC D m₂ h tk (E' : Value → Shared → Prop), P i v → LCg.NsObj oC m₂ → m₂ x = some v → Fr h₀ L h m → News h₀ L h ((I, oI) :: (C, oC) :: (D, LCg.lst ys) :: news) → LCg.Off3 I C D news → ((@Ne Nat I C) ∧ (@Ne Nat I D) ∧ (@Ne Nat C D)) →
      wpAny (model prog w) A (isTrue ct (compEnvC scope cl C env) (eval ct (compEnvC scope cl C env))) (fun ok s' => if ok = true then
        wpAny (model prog w) A (eval elt (compEnvC scope cl C env)) (LCg.CompEnd h₀ L m { s with heap := h, toks := tk } I oI C oC D (LCg.lst ys) S (fun y nw' => nw' = news ∧ Inv (i + 1) (ys ++ [y]))) E' s'
        else LCg.CompEnd h₀ L m { s with heap := h, toks := tk } I oI C oC D (LCg.lst ys) S (fun _ nw' => nw' = news ∧ Inv (i + 1) ys) Value.none s') E' { s with heap := h, toks := tk })
    (fin : ∀ ys, Inv n ys → Fin ys news) : LCt.CompRestT prog w A h₀ L m env ct elt x scope cl s S P Fin n 0 [] news :=
  compT (fun i ys nw => nw = news ∧ Inv i ys) ⟨rfl, h0⟩ (fun i ys nw hi ⟨e, hI⟩ => by subst e; exact step i ys hi hI) (fun ys nw ⟨e, hI⟩ => by subst e; exact fin ys hI)
theorem compUr {n : Nat} {news : List (Addr × Obj)} (Inv : Nat → List Value → Prop) (h0 : Inv 0 [])
    (step : ∀ i ys, i < n → Inv i ys → ∀ v I oI C oC D m₂ h tk (E' : Value → Shared → Prop), P i v → LCg.NsObj oC m₂ → m₂ x = some v → Fr h₀ L h m → News h₀ L h ((I, oI) :: (C, oC) :: (D, LCg.lst ys) :: news) → LCg.Off3 I C D news → ((@Ne Nat I C) ∧ (@Ne Nat I D) ∧ (@Ne Nat C D)) →
      wpAny (model prog w) A (eval elt (compEnvC scope cl C env)) (LCg.CompEnd h₀ L m { s with heap := h, toks := tk } I oI C oC D (LCg.lst ys) S (fun y nw' => nw' = news ∧ Inv (i + 1) (ys ++ [y]))) E' { s with heap := h, toks := tk })
    (fin : ∀ ys, Inv n ys → Fin ys news) : LCg.CompRest prog w A h₀ L m env elt x scope cl s S P Fin n 0 [] news :=
  compU (fun i ys nw => nw = news ∧ Inv i ys) ⟨rfl, h0⟩ (fun i ys nw hi ⟨e, hI⟩ => by subst e; exact step i ys hi hI) (fun ys nw ⟨e, hI⟩ => by subst e; exact fin ys hI)
end
inductive Srt | endS | good | bad
deriving DecidableEq
def Srt.str : Srt → Str
  | .endS => Str.ofString "end"
  | .good => Str.ofString "good"
  | .bad => Str.ofString "bad"
structure Row where
  sort : Srt
  places : List Nat
  goals : List Nat
abbrev Led := List (Addr × Obj)
abbrev tupO (its : Array Value) (k : Nat) : Obj := { cls := .type "tuple", data := .seq its k }
inductive All2 {α β : Type} (R : α → β → Prop) : List α → List β → Prop
  | nil : All2 R [] []
  | cons {a b as bs} : R a b → All2 R as bs → All2 R (a :: as) (b :: bs)
theorem All2.length {α β : Type} {R : α → β → Prop} {as : List α} {bs : List β} (h : All2 R as bs) : as.length = bs.length := by
  induction h with
  | nil => rfl
  | cons _ _ ih => simp only [List.length_cons, ih]
def natI (ns : List Nat) : List Int := ns.map Int.ofNat
def IntsL (led : Led) (a : Addr) (ns : List Nat) : Prop := ∃ vs k, (a, listOf vs.toArray k) ∈ led ∧ IntsAre vs (natI ns) ∧ vs.length < 100
def IntsT (led : Led) (a : Addr) (ns : List Nat) : Prop := ∃ vs k, (a, tupO vs.toArray k) ∈ led ∧ IntsAre vs (natI ns) ∧ vs.length < 100
/-- a row of the law's: what the law reads of it -/
def RowAt (led : Led) (v : Value) (r : Row) : Prop := ∃ a k t pl pv gl st, v = .ref a ∧ (a, tupO #[.str r.sort.str t, .ref pl, pv, .ref gl, st] k) ∈ led ∧ IntsT led pl r.places ∧ IntsL led gl r.goals
def RowsAt (led : Led) (a : Addr) (rs : List Row) : Prop := ∃ vs k, (a, listOf vs.toArray k) ∈ led ∧ All2 (RowAt led) vs rs ∧ vs.length < 100
def isFirst (rs : List Row) (n p : Nat) : Bool := (rs.take n).all fun r => !(r.sort == .endS && r.places.contains p)

theorem eq_nil {prog : Program} {w : World} {A : Around} {E : Value → Shared → Prop} {s : Shared} {l b : Addr} {vs : List Value} {Q : Value → Shared → Prop}
    (hl : s.heap.IsList l vs.toArray) (hb : s.heap.IsList b #[]) (hu : A.units < cLine) (h : Q (.bool vs.isEmpty) s) : wpAny (model prog w) A (compareOp .Eq (.ref l) (.ref b)) Q E s := by
  cases vs with
  | nil => exact PySem.SeqAt.eq_listAt (e := fun _ => true) hl hb rfl hu (fun j h1 => absurd h1 (Nat.not_lt_zero _)) h
  | cons v vs => exact PySem.SeqAt.eq_list_lengthsAt hl hb (by simp) hu h
theorem All2.get {α β : Type} {R : α → β → Prop} {as : List α} {bs : List β} (h : All2 R as bs) : ∀ {i : Nat} {a : α}, as[i]? = some a → ∃ b, bs[i]? = some b ∧ R a b := by
  induction h with
  | nil => intro i a e; simp at e
  | cons r _ ih =>
    intro i a e
    cases i with
    | zero => simp only [List.getElem?_cons_zero, Option.some.injEq] at e ⊢; subst e; exact ⟨_, rfl, r⟩
    | succ i => simp only [List.getElem?_cons_succ] at e ⊢; exact ih e
theorem All2.take {α β : Type} {R : α → β → Prop} {as : List α} {bs : List β} (h : All2 R as bs) : ∀ n, All2 R (as.take n) (bs.take n) := by
  induction h with
  | nil => intro n; simp only [List.take_nil]; exact .nil
  | cons r _ ih =>
    intro n
    cases n with
    | zero => exact .nil
    | succ n => exact .cons r (ih n)
theorem isListN {h₀ h : Heap} {L a : Addr} {news : List (Addr × Obj)} {its : Array Value} {k : Nat} (N : News h₀ L h news) (hm : (a, listOf its k) ∈ news) : h.IsList a its := ⟨_, (N _ hm).1, rfl, k, rfl⟩
theorem pick_upto (vs : List Value) (n : Nat) : slicePick vs.toArray none (some (n : Int)) none = (vs.take n).toArray := by
  have e : sliceBounds none (some (n : Int)) none vs.toArray.size = (((0 : Nat) : Int), ((min n vs.toArray.size : Nat) : Int), 1) := by
    simp only [sliceBounds, Option.getD_none, show (1 : Int) > 0 by decide, if_true, if_neg (show ¬ ((n : Int) < 0) by omega)]
    congr 1
    congr 1
    omega
  rw [kmk_pick_nat _ e]
  congr 1
  show ((vs.drop 0).take (min n vs.toArray.size - 0)) = _
  rw [List.drop_zero, Nat.sub_zero, List.size_toArray, kmk_take_min]
theorem sliceUpto {prog : Program} {w : World} {A : Around} {E : Value → Shared → Prop} {s : Shared} {h₀ : Heap} {L l : Addr} {m : Str → Option Value} {news : List (Addr × Obj)} {value slice : PySem.Expr} {vs : List Value} {n : Nat} {tn : Tok} {Q : Value → Shared → Prop}
    (F : Fr h₀ L s.heap m) (N : News h₀ L s.heap news) (hl : s.heap.IsList l vs.toArray) (hz : vs.length < 1000)
    (h : ∀ D h', Fr h₀ L h' m → News h₀ L h' ((D, listOf (vs.take n).toArray 0) :: news) → (∀ p ∈ news, p.1 < D) → Q (.ref D) { s with heap := h' })
    (hs : subscripted slice false (.ref l) (.ref s.heap.objs.size) = operate [.ref s.heap.objs.size, .ref l] (getItem (.ref l) (.ref s.heap.objs.size))) (ht : ∀ r, letTemporaryGo value (.ref l) r = pure ()) :
    wpAny (model prog w) A (subscriptTail value slice (.ref l) (.ref s.heap.objs.size)) Q E { s with heap := s.heap.push { cls := .type "slice", data := .fields #[.none, .int (n : Int) tn, .none] } } :=
  kmk_slice F N hl IsPart.none (IsPart.int _ _) (fun D h' F' N' l1 => h D h' F' (by rw [← pick_upto]; exact N') l1) hs ht (by rw [List.size_toArray, sizeLine_eq]; omega)
theorem natI_mem (ns : List Nat) (p : Nat) : (natI ns).any (· == (p : Int)) = ns.contains p := by
  induction ns with
  | nil => rfl
  | cons n r ih =>
    show ((Int.ofNat n == (p : Int)) || (natI r).any (· == (p : Int))) = (p == n || r.contains p)
    rw [ih]
    congr 1
    by_cases h : n = p
    · subst h; simp
    · have h' : ¬ (Int.ofNat n = (p : Int)) := fun q => h (Int.ofNat.inj q)
      rw [beq_eq_false_iff_ne.mpr h', beq_eq_false_iff_ne.mpr (Ne.symm h)]
theorem inTup {prog : Program} {w : World} {A : Around} {E : Value → Shared → Prop} {s : Shared} {h₀ : Heap} {L a : Addr} {news : List (Addr × Obj)} {vs : List Value} {k : Nat} {ns : List Nat} {p : Nat} {tp : Tok} {Q : Value → Shared → Prop}
    (N : News h₀ L s.heap news) (hm : (a, tupO vs.toArray k) ∈ news) (hi : IntsAre vs (natI ns)) (h : Q (.bool (ns.contains p)) s) : wpAny (model prog w) A (compareOp .In (.int (p : Int) tp) (.ref a)) Q E s :=
  in_tuple_ints ⟨_, (N _ hm).1, rfl, k, rfl⟩ hi (by rw [natI_mem]; exact h)
theorem all_step {α : Type} {rs : List α} {i : Nat} {r : α} (f : α → Bool) (h : rs[i]? = some r) : (rs.take (i + 1)).all f = ((rs.take i).all f && f r) := by
  rw [List.take_add_one, h]; simp
theorem srt_end (r : Srt) : (r.str == Str.ofString "end") = (r == .endS) := by cases r <;> decide +kernel
theorem srt_endT {r : Srt} (h : (r.str == Str.ofString "end") = true) : r = .endS := by
  rw [srt_end] at h; cases r <;> first | rfl | cases h
theorem srt_good (r : Srt) : (r.str == Str.ofString "good") = (r == .good) := by cases r <;> decide +kernel
theorem srt_goodT {r : Srt} (h : (r.str == Str.ofString "good") = true) : r = .good := by
  rw [srt_good] at h; cases r <;> first | rfl | cases h
theorem srt_badT {r : Srt} (h : ¬ (r.str == Str.ofString "end") = true) (h2 : ¬ (r.str == Str.ofString "good") = true) : r = .bad := by
  rw [srt_end] at h; rw [srt_good] at h2; cases r <;> first | rfl | exact absurd rfl h | exact absurd rfl h2
theorem All2.all_take {rs : List Row} {vs : List Value} {R : Value → Row → Prop} (h : All2 R vs rs) (n : Nat) (f : Row → Bool) : ((rs.take n).take (vs.take n).toArray.size).all f = (rs.take n).all f := by
  rw [List.take_of_length_le]
  rw [List.size_toArray, List.length_take, List.length_take, h.length]
  omega
theorem pop0 {prog : Program} {w : World} {A : Around} {E : Value → Shared → Prop} {s : Shared} {h₀ : Heap} {L D : Addr} {m : Str → Option Value} {news news' : List (Addr × Obj)} {n : Nat} {u : Tok} {y : Value} {q : List Value} {Q : Value → Shared → Prop}
    (F : Fr h₀ L s.heap m) (N : News h₀ L s.heap news) (U : Upd D (listOf (y :: q).toArray n) (listOf q.toArray (n + 1)) news news')
    (hz : q.length < 1000) (h : ∀ h', Fr h₀ L h' m → News h₀ L h' news' → Q y { s with heap := h' }) : wpAny (model prog w) A (call (.builtin "list.pop") [.ref D, .int 0 u]) Q E s :=
  kl_popAt (p := []) (q := q) (k := 0) F N (by decide) (by simp [seqIndex?]) rfl U (by rw [sizeLine_eq]; simp only [List.length_cons]; omega) h
theorem All2.imp {α β : Type} {R S : α → β → Prop} (f : ∀ a b, R a b → S a b) {as : List α} {bs : List β} (h : All2 R as bs) : All2 S as bs := by
  induction h with
  | nil => exact .nil
  | cons r _ ih => exact .cons (f _ _ r) ih
theorem IntsL.mono {led led' : Led} {a : Addr} {ns : List Nat} (h : IntsL led a ns) (hs : ∀ p ∈ led, p ∈ led') : IntsL led' a ns := by
  first | (refine' ex4 (h) ?_; intro _ _ _ _ _ ) | (refine' ex3 (h) ?_; intro _ _ _ h9e; walk_at "sp 2") | (refine' ex2 (h) ?_; intro _ _ h9e; walk_at "sp 3") | (refine' ex1 (h) ?_; intro _ h9e; walk_at "sp 4") | (refine' and4 (h) ?_; intro _ _ _ h9e; walk_at "sp 2") | (refine' and3 (h) ?_; intro _ _ h9e; walk_at "sp 3") | (refine' and2 (h) ?_; intro _ h9e; walk_at "sp 4") | (obtain ⟨_, _, _, _, _⟩ := h)
  rename_i vs k hm hi hl
  try (clear h)
  exact ⟨vs, k, hs _ hm, hi, hl⟩
theorem IntsT.mono {led led' : Led} {a : Addr} {ns : List Nat} (h : IntsT led a ns) (hs : ∀ p ∈ led, p ∈ led') : IntsT led' a ns := by
  first | (refine' ex4 (h) ?_; intro _ _ _ _ _ ) | (refine' ex3 (h) ?_; intro _ _ _ h9e; walk_at "sp 2") | (refine' ex2 (h) ?_; intro _ _ h9e; walk_at "sp 3") | (refine' ex1 (h) ?_; intro _ h9e; walk_at "sp 4") | (refine' and4 (h) ?_; intro _ _ _ h9e; walk_at "sp 2") | (refine' and3 (h) ?_; intro _ _ h9e; walk_at "sp 3") | (refine' and2 (h) ?_; intro _ h9e; walk_at "sp 4") | (obtain ⟨_, _, _, _, _⟩ := h)
  rename_i vs k hm hi hl
  try (clear h)
  exact ⟨vs, k, hs _ hm, hi, hl⟩
theorem RowAt.mono {led led' : Led} (hs : ∀ p ∈ led, p ∈ led') {v : Value} {r : Row} (h : RowAt led v r) : RowAt led' v r := by
  first | (refine' ex8 (h) ?_; intro _ _ _ _ _ _ _ _ h9e; walk_at "sp 3") | (refine' ex6 (h) ?_; intro _ _ _ _ _ _ h9e; walk_at "sp 5") | (refine' ex4 (h) ?_; intro _ _ _ _ h9e; walk_at "sp 7") | (refine' ex3 (h) ?_; intro _ _ _ h9e; walk_at "sp 8") | (refine' ex2 (h) ?_; intro _ _ h9e; walk_at "sp 9") | (refine' ex1 (h) ?_; intro _ h9e; walk_at "sp 10") | (refine' and6 (h) ?_; intro _ _ _ _ _ h9e; walk_at "sp 6") | (refine' and4 (h) ?_; intro _ _ _ h9e; walk_at "sp 8") | (refine' and3 (h) ?_; intro _ _ h9e; walk_at "sp 9") | (refine' and2 (h) ?_; intro _ h9e; walk_at "sp 10") | (obtain ⟨_, _, _, _, _, _, _, _, _, _, _⟩ := h)
  rename_i a k t pl pv gl st e hm h1 h2
  try (clear h)
  exact ⟨a, k, t, pl, pv, gl, st, e, hs _ hm, h1.mono hs, h2.mono hs⟩
theorem RowsAt.mono {led led' : Led} {a : Addr} {rs : List Row} (h : RowsAt led a rs) (hs : ∀ p ∈ led, p ∈ led') : RowsAt led' a rs := by
  first | (refine' ex4 (h) ?_; intro _ _ _ _ _ ) | (refine' ex3 (h) ?_; intro _ _ _ h9e; walk_at "sp 2") | (refine' ex2 (h) ?_; intro _ _ h9e; walk_at "sp 3") | (refine' ex1 (h) ?_; intro _ h9e; walk_at "sp 4") | (refine' and4 (h) ?_; intro _ _ _ h9e; walk_at "sp 2") | (refine' and3 (h) ?_; intro _ _ h9e; walk_at "sp 3") | (refine' and2 (h) ?_; intro _ h9e; walk_at "sp 4") | (obtain ⟨_, _, _, _, _⟩ := h)
  rename_i vs k hm hi hl
  try (clear h)
  exact ⟨vs, k, hs _ hm, hi.imp fun _ _ => RowAt.mono hs, hl⟩
theorem itemAny {prog : Program} {w : World} {A : Around} {E : Value → Shared → Prop} {s : Shared} {h₀ : Heap} {L l : Addr} {news : List (Addr × Obj)} {value slice : PySem.Expr} {vs : List Value} {n k : Nat} {u : Tok} {v : Value} {Q : Value → Shared → Prop}
    (N : News h₀ L s.heap news) (hm : (l, listOf vs.toArray n) ∈ news) (hx : vs[k]? = some v) (hf : k < 2 ^ 62) (h : Q v s)
    (hs : subscripted slice false (.ref l) (.int (k : Int) u) = operate [.ref l, .int (k : Int) u] (getItem (.ref l) (.int (k : Int) u)) := by with_unfolding_all rfl) :
    wpAny (model prog w) A (subscriptTail value slice (.ref l) (.int (k : Int) u)) Q E s :=
  tail_any (isListN N hm).typeIs slot_list_getitem.lookup (wpAny_getItem_list (isListN N hm) (by omega) (by omega) (by simpa using hx) h) hs
section
variable {prog : Program} {w : World} {A : Around} {E : Value → Shared → Prop} {s : Shared} {h₀ : Heap} {L : Addr} {m : Str → Option Value} {news : List (Addr × Obj)}
/-- the first two of five: what the slice of a tuple gives -/
theorem two_getItem {t sl : Addr} {a b c d e : Value} {u : Tok} {Q : Value → Shared → Prop} (ht : IsTup s.heap t #[a, b, c, d, e]) (hs : s.heap.IsSliceOf sl .none (.int 2 u) .none)
    (h : Q (.ref s.heap.objs.size) { s with heap := s.heap.push { cls := .type "tuple", data := .seq #[a, b] } }) : wpAny (model prog w) A (getItem (.ref t) (.ref sl)) Q E s := by
  have hsz : sizeOk (.seq #[a, b]) := by
    show (2 : Nat) ≤ sizeLine
    rw [sizeLine_eq]; decide
  first | (refine' ex3 (id hs) ?_; intro _ _ _ _ ) | (refine' ex2 (id hs) ?_; intro _ _ h9e; walk_at "sp 2") | (refine' ex1 (id hs) ?_; intro _ h9e; walk_at "sp 3") | (refine' and4 (id hs) ?_; intro _ _ _ _ ) | (refine' and3 (id hs) ?_; intro _ _ h9e; walk_at "sp 2") | (refine' and2 (id hs) ?_; intro _ h9e; walk_at "sp 3") | (obtain ⟨_, _, _, _⟩ := id hs)
  rename_i os hos hcs hds
  have hTs : s.TypeIs (.ref sl) "slice" := ⟨os, hos, hcs⟩
  unfold getItem
  try with_reducible refine wpAny_holding ?_
  first | refine wpAny_bind (wpAny_pure ?_) | skip
  refine wpAny_bind (wpAny_sequenceKey ht.typeIs (by decide) ?_)
  refine wpAny_bind (wpAny_callSpecial?_slot (name := Str.ofString "__getitem__") ht.typeIs slot_tuple_getitem
    (wpAny_call_entry slot_tuple_getitem ht.typeIs entry_tuple_getitem ?_ (args_tuple_getitem _ _)))
  show wpAny _ _ (Builtin.Tuple.tupleItemsOf (.ref t) >>= _) _ _ s
  refine wpAny_bind (tupleItemsOf_ ht ?_)
  refine wpAny_bind (wpAny_typeOf hTs ?_)
  rw [if_pos (by decide)]
  have app : ∀ {A : Around} {E : Value → Shared → Prop} {Q : Int × Int × Nat → Shared → Prop}, Q (0, 1, 2) s → wpAny (model prog w) A (Builtin.Slice.sliceApplied (.ref sl) (pure ((5 : Nat) : Int))) Q E s := by
    intro A E Q hq
    unfold Builtin.Slice.sliceApplied Builtin.Slice.sliceFields
    refine wpAny_bind (wpAny_bind (wpAny_field hos hds (x := .none) rfl (wpAny_bind (wpAny_field hos hds (x := .int 2 u) rfl (wpAny_bind (wpAny_field hos hds (x := .none) rfl (wpAny_pure ?_)))))))
    refine wpAny_bind (slicePart_none ?_)
    show wpAny _ _ (if ((1 : Int) == 0) = true then _ else _) _ _ s
    rw [if_neg (by decide)]
    refine wpAny_bind (slicePart_none (wpAny_bind (slicePart_int (wpAny_bind (wpAny_pure ?_)))))
    exact wpAny_pure hq
  refine wpAny_bind (app ?_)
  show wpAny _ _ (if ((0 : Int) == 0 && (1 : Int) == 1 && (2 == 5)) = true then _ else _) _ _ s
  rw [if_neg (by decide)]
  show wpAny _ _ (Builtin.Tuple.tupleExact #[a, b] >>= _) _ _ s
  exact wpAny_bind (m := Builtin.Tuple.tupleExact _) (wpAny_newObj_type (wpAny_pure ⟨_, rfl, wpAny_pure h⟩) hsz)
theorem two_slice {value slice : Expr} {t : Addr} {a b c d e : Value} {k : Nat} {u : Tok} {Q : Value → Shared → Prop}
    (F : Fr h₀ L s.heap m) (N : News h₀ L s.heap news) (hm : (t, tupO #[a, b, c, d, e] k) ∈ news)
    (h : ∀ D h', Fr h₀ L h' m → News h₀ L h' ((D, tupO #[a, b] 0) :: news) → (∀ p ∈ news, p.1 < D) → Q (.ref D) { s with heap := h' })
    (hs : subscripted slice false (.ref t) (.ref s.heap.objs.size) = operate [.ref s.heap.objs.size, .ref t] (getItem (.ref t) (.ref s.heap.objs.size)))
    (hg : ∀ r, letTemporaryGo value (.ref t) r = pure ()) :
    wpAny (model prog w) A (subscriptTail value slice (.ref t) (.ref s.heap.objs.size)) Q E { s with heap := s.heap.push { cls := .type "slice", data := .fields #[.none, .int 2 u, .none] } } := by
  have ht : IsTup s.heap t #[a, b, c, d, e] := ⟨_, (N _ hm).1, rfl, k, rfl⟩
  have ht' : IsTup (s.heap.push { cls := .type "slice", data := .fields #[.none, .int 2 u, .none] }) t #[a, b, c, d, e] := ht.keeps fun _ _ e => Heap.get?_push_of_some _ e
  refine subscriptTail_ops (s := { s with heap := s.heap.push { cls := .type "slice", data := .fields #[.none, .int 2 u, .none] } }) ht'.typeIs slot_tuple_getitem.lookup
    (two_getItem ht' (Heap.IsSliceOf.new ..) ?_) hs hg
  have N1 := News.push (F.push { cls := .type "slice", data := .fields #[.none, .int 2 u, .none] }) (N.grown fun _ _ e => Heap.get?_push_of_some _ e) { cls := .type "tuple", data := .seq #[a, b] }
  rw [Heap.size_push] at N1
  show Q (.ref (s.heap.push _).objs.size) _
  rw [Heap.size_push]
  exact h _ _ ((F.push _).push _) N1 fun p hp => Nat.lt_succ_of_lt (Heap.lt_size (N p hp).1)
end
/-! comprehensions over a tuple of the ledger -/
section
variable {prog : Program} {w : World} {A : Around} {E : Value → Shared → Prop} {s : Shared} {h₀ : Heap} {L : Addr} {m : Str → Option Value} {env : Env}
def SrcTt (prog : Program) (w : World) (A : Around) (h₀ : Heap) (L : Addr) (m : Str → Option Value) (env : Env) (ct elt : Expr) (x : Str) (scope : Scope) (cl : List (Str × Addr)) (Fin : Shared → List Value → List (Addr × Obj) → Prop) (xv : Value) (s₁ : Shared) : Prop :=
  ∃ ax vs k news, xv = .ref ax ∧ A.handled = none ∧ Fr h₀ L s₁.heap m ∧ News h₀ L s₁.heap news ∧ (ax, tupO (List.toArray vs) k) ∈ news ∧ vs.length ≤ sizeLine ∧
    ∀ s₂ : Shared, (∃ h, s₂ = { s₁ with heap := h }) → LCt.CompRestT prog w A h₀ L m env ct elt x scope cl s₂ (fun nw => (ax, tupO (List.toArray vs) k) ∈ nw) (fun i v => vs[i]? = some v) (Fin s₂) vs.length 0 [] news
theorem tup_st {ax I : Addr} {vs : List Value} {k : Nat} : ∀ i (h h' : Heap) (o : Obj) (nw : List (Addr × Obj)), (h.IsTupleIter I ax i ∧ h.IsTuple ax vs.toArray) → h.get? I = some o → h'.get? I = some o → (∀ b o, h₀.get? b = some o → h'.get? b = some o) → News h₀ L h' nw → (ax, tupO vs.toArray k) ∈ nw → (h'.IsTupleIter I ax i ∧ h'.IsTuple ax vs.toArray) :=
  fun i h h' o nw st e e' _ N S => ⟨by obtain ⟨o', q, r⟩ := st.1; rw [e] at q; cases q; exact ⟨o, e', r⟩, ⟨_, (N _ S).1, rfl, k, rfl⟩⟩
theorem tup_walks {I ax : Addr} (hh : A.handled = none) (hne : ax ≠ I) (vs : List Value) : Walks prog w A I [I, ax] [I] vs.length (fun i v => vs[i]? = some v) (fun i h => h.IsTupleIter I ax i ∧ h.IsTuple ax vs.toArray) := by
  have W := Walks.tuple (prog := prog) (w := w) hh I ax hne vs.toArray
  rw [List.size_toArray] at W
  simpa using W
theorem ListComp_Tt {ct elt iter : Expr} {x : Str} {px : Pos} {scope : Scope} {cl : List (Str × Addr)} {pos : Pos} {Q : Value → Shared → Prop} (_F₀ : Fr h₀ L s.heap m)
    (hclos : closureFor scope env = pure cl) (hcell : ∀ y ∈ scope.names, y.2 ≠ .cell) (hkind : scope.kind = .function)
    (hnames : ∀ y ∈ scope.names, y.2 = .local → scope.names.lookup y.1 = some .local) (hx : scope.names.lookup x = some .local)
    (h : wpAny (model prog w) A (eval iter env) (SrcTt prog w A h₀ L m env ct elt x scope cl (fun s₂ => LCg.FinE h₀ L m s₂ Q)) E s)
    (hs : ∀ x, foldedSetIterable iter env x = pure x := by intro _; rfl) :
    wpAny (model prog w) A (eval (.ListComp elt [⟨.Name x px, iter, [ct], 0⟩] scope pos) env) Q E s := by
  rw [eval_ListComp]
  refine wpAny_comprehension_free (use := none) rfl hs hclos hkind hnames (wpAny_mono h (fun xv s₁ h₁ => ?_) fun _ _ e => e)
  first | (refine' ex4 (h₁) ?_; intro _ _ _ _ h9e; walk_at "sp 2") | (refine' ex3 (h₁) ?_; intro _ _ _ h9e; walk_at "sp 3") | (refine' ex2 (h₁) ?_; intro _ _ h9e; walk_at "sp 4") | (refine' ex1 (h₁) ?_; intro _ h9e; walk_at "sp 5") | (refine' and6 (h₁) ?_; intro _ _ _ _ _ _ ) | (refine' and4 (h₁) ?_; intro _ _ _ h9e; walk_at "sp 3") | (refine' and3 (h₁) ?_; intro _ _ h9e; walk_at "sp 4") | (refine' and2 (h₁) ?_; intro _ h9e; walk_at "sp 5") | (obtain ⟨_, _, _, _, _, _⟩ := h₁)
  rename_i ax vs k news e9x134 r9x135
  try (clear h₁)
  subst e9x134
  first | (refine' ex4 (r9x135) ?_; intro _ _ _ _ h9e; walk_at "sp 2") | (refine' ex3 (r9x135) ?_; intro _ _ _ h9e; walk_at "sp 3") | (refine' ex2 (r9x135) ?_; intro _ _ h9e; walk_at "sp 4") | (refine' ex1 (r9x135) ?_; intro _ h9e; walk_at "sp 5") | (refine' and6 (r9x135) ?_; intro _ _ _ _ _ _ ) | (refine' and4 (r9x135) ?_; intro _ _ _ h9e; walk_at "sp 3") | (refine' and3 (r9x135) ?_; intro _ _ h9e; walk_at "sp 4") | (refine' and2 (r9x135) ?_; intro _ h9e; walk_at "sp 5") | (obtain ⟨_, _, _, _, _, _⟩ := r9x135)
  rename_i hh F N S hsz R
  try (clear r9x135)
  have hl : s₁.heap.IsTuple ax vs.toArray := ⟨_, (N _ S).1, rfl, k, rfl⟩
  have hlt : ax < s₁.heap.objs.size := Heap.lt_size (N _ S).1
  refine wpAny_pyIter_tuple hl ?_
  have up : ∀ b o, s₁.heap.get? b = some o → (s₁.heap.push { cls := .type "tuple_iterator", data := .fields #[.ref ax, .int 0 0] }).get? b = some o := fun b o e => Heap.get?_push_of_some _ e
  refine LCt.block_T (tup_walks hh (Nat.ne_of_lt hlt) vs) hsz (fun i h st => by obtain ⟨o, e, _⟩ := st.1; exact ⟨o, e⟩) tup_st hcell hkind hx ⟨⟨_, Heap.get?_push_size _ rfl, rfl, rfl⟩, hl.push _⟩ (fun b hb => ?_)
    (F.keeps up) (N.grown up) (Nat.ne_of_lt F.ns.lt) (next_is_new F) (fun p hp => Nat.ne_of_lt (Heap.lt_size (N p hp).1)) S (R _ ⟨_, rfl⟩) ?_
  · show b < (s₁.heap.push _).objs.size
    rw [Heap.size_push]
    rcases List.mem_cons.mp hb with rfl | hb
    · exact Nat.lt_succ_self _
    · rw [List.mem_singleton.mp hb]; exact Nat.lt_succ_of_lt hlt
  · intro D C h tk m' ys news' F' N' o1 hn hC₀ hD₀ hCL hDL hCD offC fin
    refine ⟨m', hn, fun h'' hs'' => fin D h'' tk (F'.change hs'' hCL hC₀) (fun p hp => ⟨hs''.extBut _ _ ?_ (N' p hp).1, (N' p hp).2⟩) o1⟩
    rcases List.mem_cons.mp hp with rfl | hp
    · exact Ne.symm hCD
    · exact offC p hp
def SrcUt (prog : Program) (w : World) (A : Around) (h₀ : Heap) (L : Addr) (m : Str → Option Value) (env : Env) (elt : Expr) (x : Str) (scope : Scope) (cl : List (Str × Addr)) (Fin : Shared → List Value → List (Addr × Obj) → Prop) (xv : Value) (s₁ : Shared) : Prop :=
  ∃ ax vs k news, xv = .ref ax ∧ A.handled = none ∧ Fr h₀ L s₁.heap m ∧ News h₀ L s₁.heap news ∧ (ax, tupO (List.toArray vs) k) ∈ news ∧ vs.length ≤ sizeLine ∧
    ∀ s₂ : Shared, (∃ h, s₂ = { s₁ with heap := h }) → LCg.CompRest prog w A h₀ L m env elt x scope cl s₂ (fun nw => (ax, tupO (List.toArray vs) k) ∈ nw) (fun i v => vs[i]? = some v) (Fin s₂) vs.length 0 [] news
theorem ListComp_Ut {elt iter : Expr} {x : Str} {px : Pos} {scope : Scope} {cl : List (Str × Addr)} {pos : Pos} {Q : Value → Shared → Prop} (_F₀ : Fr h₀ L s.heap m)
    (hclos : closureFor scope env = pure cl) (hcell : ∀ y ∈ scope.names, y.2 ≠ .cell) (hkind : scope.kind = .function)
    (hnames : ∀ y ∈ scope.names, y.2 = .local → scope.names.lookup y.1 = some .local) (hx : scope.names.lookup x = some .local)
    (h : wpAny (model prog w) A (eval iter env) (SrcUt prog w A h₀ L m env elt x scope cl (fun s₂ => LCg.FinE h₀ L m s₂ Q)) E s)
    (hs : ∀ x, foldedSetIterable iter env x = pure x := by intro _; rfl) :
    wpAny (model prog w) A (eval (.ListComp elt [⟨.Name x px, iter, [], 0⟩] scope pos) env) Q E s := by
  rw [eval_ListComp]
  refine wpAny_comprehension_free (use := none) rfl hs hclos hkind hnames (wpAny_mono h (fun xv s₁ h₁ => ?_) fun _ _ e => e)
  first | (refine' ex4 (h₁) ?_; intro _ _ _ _ h9e; walk_at "sp 2") | (refine' ex3 (h₁) ?_; intro _ _ _ h9e; walk_at "sp 3") | (refine' ex2 (h₁) ?_; intro _ _ h9e; walk_at "sp 4") | (refine' ex1 (h₁) ?_; intro _ h9e; walk_at "sp 5") | (refine' and6 (h₁) ?_; intro _ _ _ _ _ _ ) | (refine' and4 (h₁) ?_; intro _ _ _ h9e; walk_at "sp 3") | (refine' and3 (h₁) ?_; intro _ _ h9e; walk_at "sp 4") | (refine' and2 (h₁) ?_; intro _ h9e; walk_at "sp 5") | (obtain ⟨_, _, _, _, _, _⟩ := h₁)
  rename_i ax vs k news e9x146 r9x147
  try (clear h₁)
  subst e9x146
  first | (refine' ex4 (r9x147) ?_; intro _ _ _ _ h9e; walk_at "sp 2") | (refine' ex3 (r9x147) ?_; intro _ _ _ h9e; walk_at "sp 3") | (refine' ex2 (r9x147) ?_; intro _ _ h9e; walk_at "sp 4") | (refine' ex1 (r9x147) ?_; intro _ h9e; walk_at "sp 5") | (refine' and6 (r9x147) ?_; intro _ _ _ _ _ _ ) | (refine' and4 (r9x147) ?_; intro _ _ _ h9e; walk_at "sp 3") | (refine' and3 (r9x147) ?_; intro _ _ h9e; walk_at "sp 4") | (refine' and2 (r9x147) ?_; intro _ h9e; walk_at "sp 5") | (obtain ⟨_, _, _, _, _, _⟩ := r9x147)
  rename_i hh F N S hsz R
  try (clear r9x147)
  have hl : s₁.heap.IsTuple ax vs.toArray := ⟨_, (N _ S).1, rfl, k, rfl⟩
  have hlt : ax < s₁.heap.objs.size := Heap.lt_size (N _ S).1
  refine wpAny_pyIter_tuple hl ?_
  have up : ∀ b o, s₁.heap.get? b = some o → (s₁.heap.push { cls := .type "tuple_iterator", data := .fields #[.ref ax, .int 0 0] }).get? b = some o := fun b o e => Heap.get?_push_of_some _ e
  refine LCg.block_U (tup_walks hh (Nat.ne_of_lt hlt) vs) hsz (fun i h st => by obtain ⟨o, e, _⟩ := st.1; exact ⟨o, e⟩) tup_st hcell hkind hx ⟨⟨_, Heap.get?_push_size _ rfl, rfl, rfl⟩, hl.push _⟩ (fun b hb => ?_)
    (F.keeps up) (N.grown up) (Nat.ne_of_lt F.ns.lt) (next_is_new F) (fun p hp => Nat.ne_of_lt (Heap.lt_size (N p hp).1)) S (R _ ⟨_, rfl⟩) ?_
  · show b < (s₁.heap.push _).objs.size
    rw [Heap.size_push]
    rcases List.mem_cons.mp hb with rfl | hb
    · exact Nat.lt_succ_self _
    · rw [List.mem_singleton.mp hb]; exact Nat.lt_succ_of_lt hlt
  · intro D C h tk m' ys news' F' N' o1 hn hC₀ hD₀ hCL hDL hCD offC fin
    refine ⟨m', hn, fun h'' hs'' => fin D h'' tk (F'.change hs'' hCL hC₀) (fun p hp => ⟨hs''.extBut _ _ ?_ (N' p hp).1, (N' p hp).2⟩) o1⟩
    rcases List.mem_cons.mp hp with rfl | hp
    · exact Ne.symm hCD
    · exact offC p hp
end
/-! for-loops whose iterable is walked apart -/
section
variable {prog : Program} {w : World} {A : Around} {E : Value → Shared → Prop} {s : Shared} {env : Env} {h₀ : Heap} {x : Str} {body : List Stmt} {Q : Flow → Shared → Prop}
theorem forRange {px pos : Pos} {iter : Expr} {n : Nat} {m₀ : Str → Option Value} {nx₀ : List (Addr × Obj)} (F : Fr h₀ env.locals s.heap m₀) (J : Nat → (Str → Option Value) → List (Addr × Obj) → Prop)
    (hx : env.kindOf x = some .local) (hp : (env.scope.kind == .class || (env.scope.kind == .module && env.locals != env.globals)) = false) (hs : ∀ x, foldedSetIterable iter env x = pure x) (hE : PassesOwn (model prog w) A env E)
    (hi : wpAny (model prog w) A (eval iter env) (fun v s' => CutI (∃ r t u tw h tk, v = .ref r ∧ s' = { s with heap := h, toks := tk } ∧ IsRange h r 0 (n : Int) 1 t u tw ∧ Fr h₀ env.locals h m₀ ∧ News h₀ env.locals h nx₀)) E s)
    (hh : A.handled = none) (hn : n < 2 ^ 30) (hj : J 0 m₀ nx₀)
    (turn : ∀ (i : Nat) tv m₁ nx h tk I oI, i < n → (∀ p ∈ nx, @Ne Nat p.1 I) → J i m₁ nx → Fr h₀ env.locals h (fun y => if y = x then some (.int (i : Int) tv) else m₁ y) → News h₀ env.locals h ((I, oI) :: nx) →
      wpAny (model prog w) A (execs body env) (ItPostR h₀ env.locals I oI (J (i + 1)) { s with heap := h, toks := tk } Q) E { s with heap := h, toks := tk })
    (done : ∀ m₁ nx h tk, J n m₁ nx → Fr h₀ env.locals h m₁ → News h₀ env.locals h nx → Q .next { s with heap := h, toks := tk }) :
    wpAny (model prog w) A (exec (.For (.Name x px) iter body [] pos) env) Q E s := by
  refine For_invX h₀ (wpAny_mono hi (fun v s' hv => ?_) fun _ _ e => e) hs hE
  first | (refine' ex6 (hv.out) ?_; intro _ _ _ _ _ _ h9e; walk_at "sp 2") | (refine' ex4 (hv.out) ?_; intro _ _ _ _ h9e; walk_at "sp 4") | (refine' ex3 (hv.out) ?_; intro _ _ _ h9e; walk_at "sp 5") | (refine' ex2 (hv.out) ?_; intro _ _ h9e; walk_at "sp 6") | (refine' ex1 (hv.out) ?_; intro _ h9e; walk_at "sp 7") | (refine' and6 (hv.out) ?_; intro _ _ _ _ _ h9e; walk_at "sp 3") | (refine' and4 (hv.out) ?_; intro _ _ _ h9e; walk_at "sp 5") | (refine' and3 (hv.out) ?_; intro _ _ h9e; walk_at "sp 6") | (refine' and2 (hv.out) ?_; intro _ h9e; walk_at "sp 7") | (obtain ⟨_, _, _, _, _, _, _, _⟩ := hv.out)
  rename_i r t u tw h tk e9x160 r9x161
  subst e9x160
  first | (refine' ex1 (r9x161) ?_; intro _ _ ) | (refine' and2 (r9x161) ?_; intro _ _ ) | (obtain ⟨_, _⟩ := r9x161)
  rename_i e9x162 r9x163
  try (clear r9x161)
  subst e9x162
  obtain ⟨hr, F', N'⟩ := r9x163
  refine iterR (n := n) J hx hp hh F' N' hr ?_ ?_ hj (fun i tv m₁ nx h tk I oI hi ho hJ F N => ?_) done
  · exact small_one (by omega) (by omega) (by omega) (by omega)
  · rw [rangeSize_one]; split <;> omega
  · rw [Int.zero_add] at F
    exact turn i tv m₁ nx h tk I oI hi ho hJ F N
end
section
variable {M : Model} {A : Around} {E : Value → Shared → Prop} {s : Shared} {K : Frag} {h₀ : Heap} {L a : Addr} {m mg mb : Str → Option Value} {cn : Str} {cs : Scope} {ccd : Value} {cl : List (Str × Addr)} {pr : Program} {loose : List Str} {x : Str} {xp pos : Pos} {v : Value} {e1 e2 e3 e4 : Expr} {Q : Value → Shared → Prop}
theorem callG1 (F : Fr h₀ L s.heap m) (X : K.In h₀) (T : TopRead pr loose mg mb h₀) (hv : nsIn K mainGlobals x = some (some v)) (hk : keepIn K v = true)
    (h : wpAny M A (eval e1 (envX cn cs L a ccd cl)) (fun v1 s1 => K.In s1.heap ∧ wpAny M A (call v [v1]) Q E s1) E s) (t1 : starEach [e1] (envX cn cs L a ccd cl) = (false, eval e1 (envX cn cs L a ccd cl)) :: starEach [] (envX cn cs L a ccd cl))
    (c1 : cs.kind = .function) (c2 : (envX cn cs L a ccd cl).kindOf x = some .globalImplicit) (c3 : (x == Str.ofString "__debug__") = false) :
    wpAny M A (eval (.Call (.Name x xp) [e1] [] pos) (envX cn cs L a ccd cl)) Q E s :=
  Call_ (nameX_K F X T hv (callWith_K X hk (args_cons (wpAny_mono h (fun _ _ k1 => args_nil k1) fun _ _ e => e) (t1)) (t1) (rfl)) c1 c2 c3)
theorem callG2 (F : Fr h₀ L s.heap m) (X : K.In h₀) (T : TopRead pr loose mg mb h₀) (hv : nsIn K mainGlobals x = some (some v)) (hk : keepIn K v = true)
    (h : wpAny M A (eval e1 (envX cn cs L a ccd cl)) (fun v1 s1 => wpAny M A (eval e2 (envX cn cs L a ccd cl)) (fun v2 s2 => K.In s2.heap ∧ wpAny M A (call v [v1, v2]) Q E s2) E s1) E s) (t1 : starEach [e1, e2] (envX cn cs L a ccd cl) = (false, eval e1 (envX cn cs L a ccd cl)) :: starEach [e2] (envX cn cs L a ccd cl)) (t2 : starEach [e2] (envX cn cs L a ccd cl) = (false, eval e2 (envX cn cs L a ccd cl)) :: starEach [] (envX cn cs L a ccd cl))
    (c1 : cs.kind = .function) (c2 : (envX cn cs L a ccd cl).kindOf x = some .globalImplicit) (c3 : (x == Str.ofString "__debug__") = false) :
    wpAny M A (eval (.Call (.Name x xp) [e1, e2] [] pos) (envX cn cs L a ccd cl)) Q E s :=
  Call_ (nameX_K F X T hv (callWith_K X hk (args_cons (wpAny_mono h (fun _ _ k1 => args_cons (wpAny_mono k1 (fun _ _ k2 => args_nil k2) fun _ _ e => e) (t2)) fun _ _ e => e) (t1)) (t1) (by rw [t2]; rfl)) c1 c2 c3)
theorem callG3 (F : Fr h₀ L s.heap m) (X : K.In h₀) (T : TopRead pr loose mg mb h₀) (hv : nsIn K mainGlobals x = some (some v)) (hk : keepIn K v = true)
    (h : wpAny M A (eval e1 (envX cn cs L a ccd cl)) (fun v1 s1 => wpAny M A (eval e2 (envX cn cs L a ccd cl)) (fun v2 s2 => wpAny M A (eval e3 (envX cn cs L a ccd cl)) (fun v3 s3 => K.In s3.heap ∧ wpAny M A (call v [v1, v2, v3]) Q E s3) E s2) E s1) E s) (t1 : starEach [e1, e2, e3] (envX cn cs L a ccd cl) = (false, eval e1 (envX cn cs L a ccd cl)) :: starEach [e2, e3] (envX cn cs L a ccd cl)) (t2 : starEach [e2, e3] (envX cn cs L a ccd cl) = (false, eval e2 (envX cn cs L a ccd cl)) :: starEach [e3] (envX cn cs L a ccd cl)) (t3 : starEach [e3] (envX cn cs L a ccd cl) = (false, eval e3 (envX cn cs L a ccd cl)) :: starEach [] (envX cn cs L a ccd cl))
    (c1 : cs.kind = .function) (c2 : (envX cn cs L a ccd cl).kindOf x = some .globalImplicit) (c3 : (x == Str.ofString "__debug__") = false) :
    wpAny M A (eval (.Call (.Name x xp) [e1, e2, e3] [] pos) (envX cn cs L a ccd cl)) Q E s :=
  Call_ (nameX_K F X T hv (callWith_K X hk (args_cons (wpAny_mono h (fun _ _ k1 => args_cons (wpAny_mono k1 (fun _ _ k2 => args_cons (wpAny_mono k2 (fun _ _ k3 => args_nil k3) fun _ _ e => e) (t3)) fun _ _ e => e) (t2)) fun _ _ e => e) (t1)) (t1) (by rw [t2, t3]; rfl)) c1 c2 c3)
theorem callG4 (F : Fr h₀ L s.heap m) (X : K.In h₀) (T : TopRead pr loose mg mb h₀) (hv : nsIn K mainGlobals x = some (some v)) (hk : keepIn K v = true)
    (h : wpAny M A (eval e1 (envX cn cs L a ccd cl)) (fun v1 s1 => wpAny M A (eval e2 (envX cn cs L a ccd cl)) (fun v2 s2 => wpAny M A (eval e3 (envX cn cs L a ccd cl)) (fun v3 s3 => wpAny M A (eval e4 (envX cn cs L a ccd cl)) (fun v4 s4 => K.In s4.heap ∧ wpAny M A (call v [v1, v2, v3, v4]) Q E s4) E s3) E s2) E s1) E s) (t1 : starEach [e1, e2, e3, e4] (envX cn cs L a ccd cl) = (false, eval e1 (envX cn cs L a ccd cl)) :: starEach [e2, e3, e4] (envX cn cs L a ccd cl)) (t2 : starEach [e2, e3, e4] (envX cn cs L a ccd cl) = (false, eval e2 (envX cn cs L a ccd cl)) :: starEach [e3, e4] (envX cn cs L a ccd cl)) (t3 : starEach [e3, e4] (envX cn cs L a ccd cl) = (false, eval e3 (envX cn cs L a ccd cl)) :: starEach [e4] (envX cn cs L a ccd cl)) (t4 : starEach [e4] (envX cn cs L a ccd cl) = (false, eval e4 (envX cn cs L a ccd cl)) :: starEach [] (envX cn cs L a ccd cl))
    (c1 : cs.kind = .function) (c2 : (envX cn cs L a ccd cl).kindOf x = some .globalImplicit) (c3 : (x == Str.ofString "__debug__") = false) :
    wpAny M A (eval (.Call (.Name x xp) [e1, e2, e3, e4] [] pos) (envX cn cs L a ccd cl)) Q E s :=
  Call_ (nameX_K F X T hv (callWith_K X hk (args_cons (wpAny_mono h (fun _ _ k1 => args_cons (wpAny_mono k1 (fun _ _ k2 => args_cons (wpAny_mono k2 (fun _ _ k3 => args_cons (wpAny_mono k3 (fun _ _ k4 => args_nil k4) fun _ _ e => e) (t4)) fun _ _ e => e) (t3)) fun _ _ e => e) (t2)) fun _ _ e => e) (t1)) (t1) (by rw [t2, t3, t4]; rfl)) c1 c2 c3)
theorem callN1 (F : Fr h₀ L s.heap m) (X : K.In h₀) (T : TopRead pr loose mg mb h₀) (hv : nsIn K mainGlobals x = some none) (hb : bootBuiltins x = some v) (hn : x ≠ "__name__") (ht : (∃ id, v = .builtin id) ∨ ∃ id, v = .type id)
    (h : wpAny M A (eval e1 (envX cn cs L a ccd cl)) (fun v1 s1 => wpAny M A (call v [v1]) Q E s1) E s) (t1 : starEach [e1] (envX cn cs L a ccd cl) = (false, eval e1 (envX cn cs L a ccd cl)) :: starEach [] (envX cn cs L a ccd cl))
    (c1 : cs.kind = .function) (c2 : (envX cn cs L a ccd cl).kindOf x = some .globalImplicit) (c3 : (x == Str.ofString "__debug__") = false) :
    wpAny M A (eval (.Call (.Name x xp) [e1] [] pos) (envX cn cs L a ccd cl)) Q E s := by
  refine Call_ (nameX_B F X T hv hb hn ?_ c1 c2 c3)
  rcases ht with ⟨id, rfl⟩ | ⟨id, rfl⟩
  · exact callWith_builtin1 (args_cons (wpAny_mono h (fun _ _ k1 => args_nil k1) fun _ _ e => e) (t1)) t1 (rfl)
  · exact PyProof.Rows.callWith_type1 (args_cons (wpAny_mono h (fun _ _ k1 => args_nil k1) fun _ _ e => e) (t1)) t1 (rfl)
theorem callN2 (F : Fr h₀ L s.heap m) (X : K.In h₀) (T : TopRead pr loose mg mb h₀) (hv : nsIn K mainGlobals x = some none) (hb : bootBuiltins x = some v) (hn : x ≠ "__name__") (ht : (∃ id, v = .builtin id) ∨ ∃ id, v = .type id)
    (h : wpAny M A (eval e1 (envX cn cs L a ccd cl)) (fun v1 s1 => wpAny M A (eval e2 (envX cn cs L a ccd cl)) (fun v2 s2 => wpAny M A (call v [v1, v2]) Q E s2) E s1) E s) (t1 : starEach [e1, e2] (envX cn cs L a ccd cl) = (false, eval e1 (envX cn cs L a ccd cl)) :: starEach [e2] (envX cn cs L a ccd cl)) (t2 : starEach [e2] (envX cn cs L a ccd cl) = (false, eval e2 (envX cn cs L a ccd cl)) :: starEach [] (envX cn cs L a ccd cl))
    (c1 : cs.kind = .function) (c2 : (envX cn cs L a ccd cl).kindOf x = some .globalImplicit) (c3 : (x == Str.ofString "__debug__") = false) :
    wpAny M A (eval (.Call (.Name x xp) [e1, e2] [] pos) (envX cn cs L a ccd cl)) Q E s := by
  refine Call_ (nameX_B F X T hv hb hn ?_ c1 c2 c3)
  rcases ht with ⟨id, rfl⟩ | ⟨id, rfl⟩
  · exact callWith_builtin1 (args_cons (wpAny_mono h (fun _ _ k1 => args_cons (wpAny_mono k1 (fun _ _ k2 => args_nil k2) fun _ _ e => e) (t2)) fun _ _ e => e) (t1)) t1 (by rw [t2]; rfl)
  · exact PyProof.Rows.callWith_type1 (args_cons (wpAny_mono h (fun _ _ k1 => args_cons (wpAny_mono k1 (fun _ _ k2 => args_nil k2) fun _ _ e => e) (t2)) fun _ _ e => e) (t1)) t1 (by rw [t2]; rfl)
end
theorem words_base_1 : True := by
  k_with "memR" => first | exact List.Mem.head _ | assumption | (refine' List.Mem.tail _ ?_; k_extra "memR") | (refine List.mem_append.mpr (Or.inr ?_); k_extra "memR") | (refine List.mem_append.mpr (Or.inl ?_); k_extra "memR")
  k_with "memD" => first | exact List.Mem.head _ | assumption | (refine' List.Mem.tail _ ?_; k_extra "memD") | (refine List.mem_append.mpr (Or.inr ?_); k_extra "memD") | (refine List.mem_append.mpr (Or.inl ?_); k_extra "memD")
  k_with "k_mem" => first | (with_reducible k_extra "memR") | k_extra "memD"
  trivial
theorem words_base_2 : True := by
  k_with "call type:list" => (k_here; (with_reducible show wpAny _ _ (call (Value.type _) [Value.ref _]) _ _ _); k_dflt (refine' kup_listOfT ?F ?N ?b rfl ?_ ?z; (case F => k_asm); (case N => k_asm); (case b => k_mem); (case z => (refine Nat.le_trans (Nat.le_of_lt ?_) (Nat.le_of_ble_eq_true rfl : 100 ≤ sizeLine); assumption))); intro D' c' h' F' N' l1; (try k_lt l1))
  k_with "subscriptTail" => (k_here; (with_reducible show wpAny _ _ (subscriptTail _ (PySem.Expr.Slice _ _ none _) (Value.ref _) (Value.ref _)) _ _ _); k_dflt (refine' two_slice ?F ?N ?m ?_ ?s ?t; (case F => k_asm); (case N => k_asm); (case m => k_mem); (case s => with_unfolding_all rfl); (case t => kmk_pure)); intro D' h' F' N' l1; (try k_lt l1))
  k_with "my sub" => (intro p9 h9; repeat (first | exact h9 | refine' List.Mem.tail _ ?_ | refine List.mem_append.mpr (Or.inr ?_)))
  k_with "subscriptTail" => (k_here; (with_reducible show wpAny _ _ (subscriptTail _ _ (Value.ref _) (Value.int _ _)) _ _ _); k_dflt (refine' itemAny ?N ?m ?x ?f ?_ ?s; (case N => k_asm); (case m => k_mem); (case x => with_reducible assumption); (case f => omega); (case s => with_unfolding_all rfl)))
  k_with "my enterC" => (refine' code_defC ?k1 ?k2 ?k3 ?k4 ?k5 ?kA ?kF ?kK ?k6 ?k7 ?k8 ?k9 ?kB ?kD ?_ ?c2 ?c3 ?c4; (case kA => exact rfl); (case kF => exact rfl); (case kK => assumption); (case k1 => k_asm); (case k2 => k_asm); (case k3 => k_asm); (case k4 => k_asm); (case k5 => k_asm); (case k6 => k_is); (case k7 => k_is); (case k8 => ktr_room); (case k9 => exact BindsTo.of_eq rfl); (case kB => exact rfl); (case kD => decide +kernel); (case c2 => exact rfl); (case c3 => exact rfl); (case c4 => exact rfl); k_whole; intro g' L' h' tk' cells' FG' F' N' Y' B' X' T' l1; (try k_lt l1); k_cells Y'; (try simp only [List.cons_append, List.nil_append] at N'); (try dsimp only); (try k_lift B'); (try k_fold))
  k_with "subscriptTail Name Slice ref ref" => (k_here; (with_reducible show wpAny _ _ (subscriptTail _ (PySem.Expr.Slice _ _ none _) (Value.ref _) (Value.ref _)) _ _ _); k_dflt (refine' sliceUpto ?F ?N ?l ?z ?_ ?s ?t; (case F => k_asm); (case N => k_asm); (case l => kmk_list); (case z => omega); (case s => with_unfolding_all rfl); (case t => kmk_pure)); intro D' h' F' N' l1; (try k_lt l1))
  k_with "eval ListComp" => (k_here; lct_look; k_dflt (refine LCt.ListComp_T (F₀ := by k_asm) (by with_unfolding_all rfl) (by decide) (by rfl) (by decide) (by rfl) ?_); walk_say "MINE")
  k_with "CompSrcT" => fail "stop"
  k_with "compareOp In int ref" => (k_here; (with_reducible show wpAny _ _ (compareOp CmpOp.In (Value.int _ _) (Value.ref _)) _ _ _); k_dflt (refine' inTup ?N ?m ?i ?_; (case N => k_asm); (case m => k_mem); (case i => assumption)))
  k_with "compareOp Eq ref ref" => (k_here; (with_reducible show wpAny _ _ (compareOp CmpOp.Eq (Value.ref _) (Value.ref _)) _ _ _); k_dflt (refine' eq_nil ?a ?b ?u ?_; (case a => (refine' isListN ?n ?m; (case n => k_asm); (case m => k_mem))); (case b => (refine' isListN ?n ?m; (case n => k_asm); (case m => k_mem))); (case u => units_room)))
  k_with "call builtin:list.pop" => (k_here; (with_reducible show wpAny _ _ (call (Value.builtin _) [Value.ref _, Value.int _ _]) _ _ _); k_dflt (refine' pop0 ?F ?N ?U ?z ?_; (case F => k_asm); (case N => k_asm); (case U => k_upd); (case z => (have hLen9 := IntsAre.length (by assumption); (simp only [List.length_cons] at *); omega))); intro h' F' N'; (try dsimp only [List.nil_append, List.cons_append] at N'))
  k_with "eval Call" => (k_here; (with_reducible first | show wpAny _ _ (eval (PySem.Expr.Call (PySem.Expr.Name _ _) [_, _] [] _) (envOf _ _ _ _ _)) _ _ _ | show wpAny _ _ (eval (PySem.Expr.Call (PySem.Expr.Name _ _) [_, _] [] _) (envOfC _ _ _ _ _)) _ _ _ | show wpAny _ _ (eval (PySem.Expr.Call (PySem.Expr.Name _ _) [_, _] [] _) (envX _ _ _ _ _ _)) _ _ _); k_dflt (refine' callN2 ?cgF ?cgX ?cgT ?cgv ?cgb ?cgn ?cgw ?_ ?cgt1 ?cgt2 ?cg1 ?cg2 ?cg3; (case cg2 => exact rfl); (case cgF => k_asm); (case cgX => k_asm); (case cgT => k_asm); (case cgv => k_is); (case cgb => boot_fast); (case cgn => decide); (case cgw => first | exact .inl ⟨_, rfl⟩ | exact .inr ⟨_, rfl⟩); (case cgt1 => exact rfl); (case cgt2 => exact rfl); (case cg1 => exact rfl); (case cg3 => decide +kernel); k_whole))
  k_with "eval Call" => (k_here; (with_reducible first | show wpAny _ _ (eval (PySem.Expr.Call (PySem.Expr.Name _ _) [_] [] _) (envOf _ _ _ _ _)) _ _ _ | show wpAny _ _ (eval (PySem.Expr.Call (PySem.Expr.Name _ _) [_] [] _) (envOfC _ _ _ _ _)) _ _ _ | show wpAny _ _ (eval (PySem.Expr.Call (PySem.Expr.Name _ _) [_] [] _) (envX _ _ _ _ _ _)) _ _ _); k_dflt (refine' callN1 ?cgF ?cgX ?cgT ?cgv ?cgb ?cgn ?cgw ?_ ?cgt1 ?cg1 ?cg2 ?cg3; (case cg2 => exact rfl); (case cgF => k_asm); (case cgX => k_asm); (case cgT => k_asm); (case cgv => k_is); (case cgb => boot_fast); (case cgn => decide); (case cgw => first | exact .inl ⟨_, rfl⟩ | exact .inr ⟨_, rfl⟩); (case cgt1 => exact rfl); (case cg1 => exact rfl); (case cg3 => decide +kernel); k_whole))
  k_with "eval Call" => (k_here; (with_reducible first | show wpAny _ _ (eval (PySem.Expr.Call (PySem.Expr.Name _ _) [_, _, _, _] [] _) (envOf _ _ _ _ _)) _ _ _ | show wpAny _ _ (eval (PySem.Expr.Call (PySem.Expr.Name _ _) [_, _, _, _] [] _) (envOfC _ _ _ _ _)) _ _ _ | show wpAny _ _ (eval (PySem.Expr.Call (PySem.Expr.Name _ _) [_, _, _, _] [] _) (envX _ _ _ _ _ _)) _ _ _); k_dflt (refine' callG4 ?cgF ?cgX ?cgT ?cgv ?cgk ?_ ?cgt1 ?cgt2 ?cgt3 ?cgt4 ?cg1 ?cg2 ?cg3; (case cg2 => exact rfl); (case cgF => k_asm); (case cgX => k_asm); (case cgT => k_asm); (case cgv => k_is); (case cgk => k_is); (case cgt1 => exact rfl); (case cgt2 => exact rfl); (case cgt3 => exact rfl); (case cgt4 => exact rfl); (case cg1 => exact rfl); (case cg3 => decide +kernel); k_whole))
  k_with "eval Call" => (k_here; (with_reducible first | show wpAny _ _ (eval (PySem.Expr.Call (PySem.Expr.Name _ _) [_, _, _] [] _) (envOf _ _ _ _ _)) _ _ _ | show wpAny _ _ (eval (PySem.Expr.Call (PySem.Expr.Name _ _) [_, _, _] [] _) (envOfC _ _ _ _ _)) _ _ _ | show wpAny _ _ (eval (PySem.Expr.Call (PySem.Expr.Name _ _) [_, _, _] [] _) (envX _ _ _ _ _ _)) _ _ _); k_dflt (refine' callG3 ?cgF ?cgX ?cgT ?cgv ?cgk ?_ ?cgt1 ?cgt2 ?cgt3 ?cg1 ?cg2 ?cg3; (case cg2 => exact rfl); (case cgF => k_asm); (case cgX => k_asm); (case cgT => k_asm); (case cgv => k_is); (case cgk => k_is); (case cgt1 => exact rfl); (case cgt2 => exact rfl); (case cgt3 => exact rfl); (case cg1 => exact rfl); (case cg3 => decide +kernel); k_whole))
  k_with "eval Call" => (k_here; (with_reducible first | show wpAny _ _ (eval (PySem.Expr.Call (PySem.Expr.Name _ _) [_, _] [] _) (envOf _ _ _ _ _)) _ _ _ | show wpAny _ _ (eval (PySem.Expr.Call (PySem.Expr.Name _ _) [_, _] [] _) (envOfC _ _ _ _ _)) _ _ _ | show wpAny _ _ (eval (PySem.Expr.Call (PySem.Expr.Name _ _) [_, _] [] _) (envX _ _ _ _ _ _)) _ _ _); k_dflt (refine' callG2 ?cgF ?cgX ?cgT ?cgv ?cgk ?_ ?cgt1 ?cgt2 ?cg1 ?cg2 ?cg3; (case cg2 => exact rfl); (case cgF => k_asm); (case cgX => k_asm); (case cgT => k_asm); (case cgv => k_is); (case cgk => k_is); (case cgt1 => exact rfl); (case cgt2 => exact rfl); (case cg1 => exact rfl); (case cg3 => decide +kernel); k_whole))
  k_with "eval Call" => (k_here; (with_reducible first | show wpAny _ _ (eval (PySem.Expr.Call (PySem.Expr.Name _ _) [_] [] _) (envOf _ _ _ _ _)) _ _ _ | show wpAny _ _ (eval (PySem.Expr.Call (PySem.Expr.Name _ _) [_] [] _) (envOfC _ _ _ _ _)) _ _ _ | show wpAny _ _ (eval (PySem.Expr.Call (PySem.Expr.Name _ _) [_] [] _) (envX _ _ _ _ _ _)) _ _ _); k_dflt (refine' callG1 ?cgF ?cgX ?cgT ?cgv ?cgk ?_ ?cgt1 ?cg1 ?cg2 ?cg3; (case cg2 => exact rfl); (case cgF => k_asm); (case cgX => k_asm); (case cgT => k_asm); (case cgv => k_is); (case cgk => k_is); (case cgt1 => exact rfl); (case cg1 => exact rfl); (case cg3 => decide +kernel); k_whole))
  k_with "callWith" => (k_here; (with_reducible show wpAny _ _ (callWith _ (Value.builtin _) (_ :: _) (backTo _ (starEach (_ :: _) _)) []) _ _ _); refine callWith_method1 ?_)
  trivial

/-! sets of one or two small ints, and how they are walked -/
theorem slot_setit_next : Slot "set_iterator" "__next__" "set_iterator.__next__" :=
  .of (owner := "set_iterator") (n := "__next__") (by rw [typeLookup_type, builtinLookup_eq_fast]; kernel_rfl) (by decide +kernel) (by decide +kernel) (by decide +kernel)
    (by first | exact .inl (by decide +kernel) | exact .inr (by decide +kernel)) (by rw [isSubtype_type]; kernel_rfl)
theorem entry_setit_next : entryFor table "set_iterator.__next__" = some Builtin.«set_iterator.__next__» := entryFor_of_tree (by kernel_rfl)
theorem args_setit_next (a : Value) : argsOk "set_iterator.__next__" ⟨[a], []⟩ := by unfold argsOk; kernel_rfl
theorem slot_setit_iter : Slot "set_iterator" "__iter__" "set_iterator.__iter__" :=
  .of (owner := "set_iterator") (n := "__iter__") (by rw [typeLookup_type, builtinLookup_eq_fast]; kernel_rfl) (by decide +kernel) (by decide +kernel) (by decide +kernel)
    (by first | exact .inl (by decide +kernel) | exact .inr (by decide +kernel)) (by rw [isSubtype_type]; kernel_rfl)
theorem entry_setit_iter : entryFor table "set_iterator.__iter__" = some Builtin.«dict_keyiterator.__iter__» :=
  entryFor_alias (id' := "dict_keyiterator.__iter__") (by rw [fastTable_eq_tree]; kernel_rfl) rfl (by decide +kernel) (by rw [fastTable_eq_tree]; kernel_rfl)
theorem args_setit_iter (a : Value) : argsOk "set_iterator.__iter__" ⟨[a], []⟩ := by unfold argsOk; kernel_rfl
theorem entry_set_iter : entryFor table "set.__iter__" = some Builtin.«frozenset.__iter__» :=
  entryFor_alias (id' := "frozenset.__iter__") (by rw [fastTable_eq_tree]; kernel_rfl) rfl (by decide +kernel) (by rw [fastTable_eq_tree]; kernel_rfl)
def setO (es : List (Int × Value)) (ps : List Nat) (led : Bool) (ep : Nat) : Obj := { cls := .type "set", dict := none, data := .set es.toArray ep ⟨7, ps.toArray, #[], 0, led, 0, true⟩ }
/-- the places of which ints: as the tables of such small ints are -/
structure SetEs (ns : List Nat) (es : List (Int × Value)) : Prop where
  rel : All2 (fun (n : Nat) (e : Int × Value) => ∃ t, e = ((n : Int), Value.int (n : Int) t)) ns es
section
variable {prog : Program} {w : World} {A : Around} {E : Value → Shared → Prop} {s : Shared}
theorem wpAny_byText {Q : Bool → Shared → Prop} (h : Q (w.params.followText "set-order") s) : wpAny (model prog w) A setsByText Q E s := by
  unfold setsByText
  exact wpAny_bind (wpAny_askSetting (wpAny_pure h))
theorem setO_state {S : Addr} {es ps led ep} {Q : Array (Int × Value) × Nat × SetTable → Shared → Prop} (ho : s.heap.get? S = some (setO es ps led ep)) (hf : (⟨7, ps.toArray, #[], 0, led, 0, true⟩ : SetTable).fits es.toArray.size = true)
    (h : Q (es.toArray, ep, ⟨7, ps.toArray, #[], 0, led, 0, true⟩) s) : wpAny (model prog w) A (setState S) Q E s := wpAny_setState_of ho rfl hf h
end

def slotOf (ps : List Nat) : Nat → Nat
  | 0 => 0
  | i + 1 => ps.getD i 0 + 1
/-- a set of small ints and what it gives when it is walked -/
structure WalkSet (w : World) (S : Addr) (es : List (Int × Value)) (ps : List Nat) (ep : Nat) (its : List Value) : Prop where
  fits : ∀ led, (⟨7, ps.toArray, #[], 0, led, 0, true⟩ : SetTable).fits es.toArray.size = true
  len : its.length = es.length
  plen : ps.length = es.length
  txt : w.params.followText "set-order" = true → its = (pickOrder (w.params.setOrder S ep) es.toArray).toList.map (·.2)
  tab : w.params.followText "set-order" = false → its = es.map (·.2) ∧ ∀ i, i ≤ ps.length → SetTable.below ps.toArray (slotOf ps i) = i
def slotW (w : World) (ps : List Nat) (i : Nat) : Nat := if w.params.followText "set-order" = true then 0 else slotOf ps i
section
variable {prog : Program} {w : World} {A : Around} {E : Value → Shared → Prop} {s : Shared}
theorem setNext_at {S : Addr} {es ps ep its} {i : Nat} {Q : Option (Value × Nat) → Shared → Prop} (ho : s.heap.get? S = some (setO es ps (!w.params.followText "set-order") ep)) (W : WalkSet w S es ps ep its) (hi : i ≤ es.length)
    (h : Q (its[i]?.map fun x => (x, slotW w ps (i + 1))) s) : wpAny (model prog w) A (setNext S (slotW w ps i) i ep) Q E s := by
  unfold setNext
  refine wpAny_bind (setO_state ho (W.fits _) ?_)
  refine wpAny_bind (wpAny_byText ?_)
  cases hb : w.params.followText "set-order" with
  | true =>
    dsimp only
    rw [if_pos rfl, if_neg (by simp)]
    unfold setWalk
    refine wpAny_bind (wpAny_bind (setO_state ho (W.fits _) ?_))
    refine wpAny_bind (wpAny_byText ?_)
    rw [hb, if_pos rfl]
    refine wpAny_bind (wpAny_askSetting (wpAny_pure ?_))
    refine wpAny_pure ?_
    have e := W.txt hb
    have : ((pickOrder (w.params.setOrder S ep) es.toArray)[i]?.map fun e => (e.2, slotW w ps i)) = its[i]?.map fun x => (x, slotW w ps (i + 1)) := by
      rw [e]
      simp [slotW, hb]
      rfl
    rw [show ((model prog w).w.params.setOrder S ep) = w.params.setOrder S ep from rfl, this]
    exact h
  | false =>
    dsimp only
    rw [if_neg Bool.false_ne_true]
    obtain ⟨e, hbl⟩ := W.tab hb
    rw [if_neg (by exact Bool.false_ne_true)]
    refine wpAny_bind ?_
    show wpAny _ _ (if (false && !es.toArray.isEmpty) = true then unsupported "set:maker-not-led" else pure ()) _ _ _
    rw [if_neg (by exact Bool.false_ne_true)]
    refine wpAny_pure (wpAny_pure ?_)
    have hbl' : SetTable.below ps.toArray (slotW w ps i) = i := by
      simp only [slotW, hb, Bool.false_eq_true, if_false]
      exact hbl i (by rw [W.plen]; exact hi)
    rw [hbl']
    have : (match es.toArray[i]?, ps.toArray[i]? with | some (_, x), some j => some (x, j + 1) | _, _ => none) = its[i]?.map fun x => (x, slotW w ps (i + 1)) := by
      simp only [List.getElem?_toArray]
      by_cases hlt : i < es.length
      · have hlp : i < ps.length := by rw [W.plen]; exact hlt
        rw [e]
        simp [hlt, hlp, slotW, hb, slotOf]
      · have h1 : es[i]? = none := List.getElem?_eq_none (Nat.le_of_not_lt hlt)
        rw [e]
        simp [h1]
    rw [← this] at h
    exact h
theorem setit_at {I S : Addr} {es ps} {ep : Nat} {its} {i : Nat} {Q : Option Value → Shared → Prop} (hh : A.handled = none) (hne : S ≠ I) (hI : s.heap.get? I = some { cls := .type "set_iterator", data := .fields #[rawInt (slotW w ps i), rawInt i, .ref S, rawInt es.length, rawInt ep] })
    (ho : s.heap.get? S = some (setO es ps (!w.params.followText "set-order") ep)) (W : WalkSet w S es ps ep its) (hi : i ≤ es.length) 
    (hit : ∀ v h', its[i]? = some v → h'.get? I = some { cls := .type "set_iterator", data := .fields #[rawInt (slotW w ps (i + 1)), rawInt ((i + 1 : Nat) : Int), .ref S, rawInt es.length, rawInt ep] } → Heap.SameBut I s.heap h' → Q (some v) { s with heap := h' })
    (hend : i = es.length → ∀ h', Heap.ExtBut I s.heap h' → Q none { s with heap := h' }) : wpAny (model prog w) A (pyNext (.ref I)) Q E s := by
  have hT : s.TypeIs (.ref I) "set_iterator" := ⟨_, hI, rfl⟩
  unfold pyNext
  refine wpAny_bind (wpAny_attempt (wpAny_callSpecial?_slot (name := Str.ofString "__next__") hT slot_setit_next
    (wpAny_call_entry slot_setit_next hT entry_setit_next ?_ (args_setit_next _))))
  show wpAny _ _ (fieldsOf (.ref I) >>= _) _ _ s
  refine wpAny_bind (wpAny_fieldsOf hI rfl ?_)
  show wpAny _ _ (setEntries S >>= _) _ _ s
  unfold setEntries
  refine wpAny_bind (wpAny_bind (setO_state ho (W.fits _) (wpAny_pure ?_)))
  dsimp only
  rw [if_neg (by simp)]
  show wpAny _ _ (setNext S _ _ _ >>= _) _ _ s
  refine wpAny_bind (setNext_at (i := i) ho W hi ?_)
  cases hv : its[i]? with
  | some v =>
    show wpAny _ _ (setField (.ref I) 0 (rawInt (slotW w ps (i + 1))) >>= _) _ _ s
    refine wpAny_bind (wpAny_setField hI rfl (by simp) ?_)
    show wpAny _ _ (setField (.ref I) 1 (rawInt ((i : Int) + 1)) >>= _) _ _ _
    refine wpAny_bind (wpAny_setField (Heap.get?_update_self _ hI rfl) rfl (by simp) ?_)
    refine wpAny_pure ⟨_, rfl, wpAny_pure (hit v _ hv (Heap.get?_update_self _ (Heap.get?_update_self _ hI rfl) rfl) ((Heap.SameBut.update ..).trans (Heap.SameBut.update ..)))⟩
  | none =>
    have hin : i = es.length := by
      rw [List.getElem?_eq_none_iff, W.len] at hv
      omega
    show wpAny _ _ (setField (.ref I) 2 .none >>= _) _ _ s
    refine wpAny_bind (wpAny_setField hI rfl (by simp) ?_)
    show wpAny _ _ (newExc (.type "StopIteration") [] >>= _) _ _ _
    refine wpAny_bind ?_
    simp only [newExc, newTuple]
    refine wpAny_bind (wpAny_newObj_type ?_ (by size_fits))
    refine wpAny_bind (m := firstArgMember _ _) (wpAny_of_eq (a := Value.none) (by first | rfl | (simp only [firstArgMember]; rfl)) ?_)
    refine wpAny_newObj_type ?_ (by size_fits)
    simp only [raiseNew]
    refine wpAny_bind (wpAny_handled ?_)
    rw [show A.in1.handled = none from hh]
    refine wpAny_bind (wpAny_pure (wpAny_throw ?_))
    refine wpAny_bind (wpAny_isInstance (T := "StopIteration") (b := true) ⟨_, Heap.get?_push_size _ rfl, rfl⟩ isSubtype_stop ?_)
    exact wpAny_pure (hend hin _ (((Heap.SameBut.update ..).extBut.push _).push _))
theorem walksSet (hh : A.handled = none) (I S : Addr) (hne : S ≠ I) {es ps} {ep : Nat} {its} (W : WalkSet w S es ps ep its) :
    Walks prog w A I [I, S] [I] its.length (fun i v => its[i]? = some v) (fun i h => h.get? I = some { cls := .type "set_iterator", data := .fields #[rawInt (slotW w ps i), rawInt i, .ref S, rawInt es.length, rawInt ep] } ∧ h.get? S = some (setO es ps (!w.params.followText "set-order") ep)) where
  sub := fun b hb => by simp at hb; simp [hb]
  frame := fun _ _ _ st hk => ⟨hk I (by simp) _ st.1, hk S (by simp) _ st.2⟩
  item := fun i s Q E hi st hQ => by
    refine setit_at hh hne st.1 st.2 W (by rw [← W.len]; omega) (fun v h' hv h1 hs => ?_) (fun e => absurd hi (by rw [W.len, e]; exact Nat.lt_irrefl _))
    exact hQ v h' s.toks hv ⟨h1, hs.extBut S _ hne st.2⟩ fun b o hb e => hs.extBut b o (fun h => hb (by simp [h])) e
  done := fun s Q E st hQ => by
    have hl := W.len
    refine setit_at hh hne st.1 st.2 W (by omega) (fun v h' hv h1 hs => absurd hv (by simp)) (fun e h' he' => ?_)
    exact hQ h' s.toks fun b o hb e => he' b o (fun h => hb (by simp [h])) e
  self := fun i s Q E st hQ => by
    have hT : s.TypeIs (.ref I) "set_iterator" := ⟨_, st.1, rfl⟩
    refine wpAny_pyIter_slot hT slot_setit_iter (wpAny_call_entry slot_setit_iter hT entry_setit_iter ?_ (args_setit_iter _))
    show wpAny _ _ (ret (.ref I)) _ _ s
    exact wpAny_pure ⟨_, rfl, "set_iterator", _, hT, slot_setit_next.lookup, hQ⟩
end

section
variable {prog : Program} {w : World} {A : Around} {E : Value → Shared → Prop} {s : Shared}
theorem slot0W (ps : List Nat) : slotW w ps 0 = 0 := by unfold slotW slotOf; split <;> rfl
theorem pyIter_setO {S : Addr} {es ps} {ep : Nat} {its} {Q : Value → Shared → Prop} (ho : s.heap.get? S = some (setO es ps (!w.params.followText "set-order") ep)) (W : WalkSet w S es ps ep its)
    (h : Q (.ref s.heap.objs.size) { s with heap := s.heap.push { cls := .type "set_iterator", data := .fields #[rawInt (slotW w ps 0), rawInt ((0 : Nat) : Int), .ref S, rawInt es.length, rawInt ep] } }) : wpAny (model prog w) A (pyIter (.ref S)) Q E s := by
  have hT : s.TypeIs (.ref S) "set" := ⟨_, ho, rfl⟩
  refine wpAny_pyIter_slot hT F.slot_set_iter (wpAny_call_entry F.slot_set_iter hT entry_set_iter ?_ (F.args_set_iter_1 _))
  show wpAny _ _ (Builtin.Frozenset.sizeOf S >>= _) _ _ s
  unfold Builtin.Frozenset.sizeOf setEntries
  refine wpAny_bind (wpAny_bind (wpAny_bind (setO_state ho (W.fits _) (wpAny_pure (wpAny_pure ?_)))))
  dsimp only
  refine wpAny_bind ?_
  unfold setDrawn
  refine wpAny_bind (setO_state ho (W.fits _) ?_)
  refine wpAny_bind (wpAny_byText ?_)
  refine wpAny_pure ?_
  rw [if_neg (by exact (show ¬ ((!w.params.followText "set-order" && false) = true) by cases w.params.followText "set-order" <;> decide))]
  refine wpAny_bind (wpAny_pure ?_)
  unfold setEpoch
  refine wpAny_bind (wpAny_bind (setO_state ho (W.fits _) (wpAny_pure ?_)))
  refine wpAny_bind (wpAny_newObj_type ?_ (by size_fits))
  refine wpAny_pure ⟨_, rfl, "set_iterator", _, ⟨_, Heap.get?_push_size _ rfl, rfl⟩, slot_setit_next.lookup, ?_⟩
  rw [slot0W] at h
  exact h
theorem collect_setO {S : Addr} {es ps} {ep : Nat} {its} {Q : List Value → Shared → Prop} (hh : A.handled = none) (ho : s.heap.get? S = some (setO es ps (!w.params.followText "set-order") ep)) (W : WalkSet w S es ps ep its) (hz : its.length ≤ 100)
    (hQ : ∀ h' tk, (∀ b o, s.heap.get? b = some o → h'.get? b = some o) → Q its { s with heap := h', toks := tk }) : wpAny (model prog w) A (collect (.ref S)) Q E s := by
  have hlt : S < s.heap.objs.size := Heap.lt_size ho
  unfold collect
  refine wpAny_bind (wpAny_runValue (codeAny_builtin F.entry_proto_collect ?_))
  rw [Around.under_plainId F.plain_proto_collect _]
  show wpAny _ A.in1 (newList [] >>= fun l => again (.builtin "list.__iadd__" ⟨[l, .ref S], []⟩)) _ _ s
  refine wpAny_bind (wpAny_newObj_type ?_)
  refine wpAny_pure ⟨plainId_quiet F.plain_list_iadd _, codeAny_builtin F.entry_list_iadd ?_⟩
  rw [Around.under_plainId F.plain_list_iadd _]
  have h1 : Builtin.List.listSameRef (.ref s.heap.objs.size) (.ref S) = false := by
    have : s.heap.objs.size ≠ S := Nat.ne_of_gt hlt
    simp [Builtin.List.listSameRef, this]
  generalize hH : s.heap.push { cls := .type "list", data := .seq ([] : List Value).toArray } = H
  have ho1 : H.get? S = some (setO es ps (!w.params.followText "set-order") ep) := by rw [← hH]; exact Heap.get?_push_of_some _ ho
  have hHs : H.objs.size = s.heap.objs.size + 1 := by rw [← hH, Heap.size_push]
  show wpAny _ A.in1 (Builtin.List.listExtendWith (.ref s.heap.objs.size) (.ref S) (.ref s.heap.objs.size)) _ _ { s with heap := H }
  unfold Builtin.List.listExtendWith
  have hT : Shared.TypeIs { s with heap := H } (.ref S) "set" := ⟨_, ho1, rfl⟩
  refine wpAny_bind (wpAny_typeOf hT ?_)
  rw [if_neg (by rw [h1]; decide)]
  refine wpAny_bind (pyIter_setO (s := { s with heap := H }) ho1 W ?_)
  have hT2 : Shared.TypeIs { s with heap := H.push { cls := .type "set_iterator", data := .fields #[rawInt (slotW w ps 0), rawInt ((0 : Nat) : Int), .ref S, rawInt es.length, rawInt ep] } } (.ref S) "set" := ⟨_, Heap.get?_push_of_some _ ho1, rfl⟩
  refine wpAny_bind (wpAny_holding ?_)
  unfold Builtin.List.listLengthHint
  refine wpAny_bind (wpAny_specialOf hT2 F.slot_set_len.lookup ?_)
  (generalize hid : ("set.__len__" : String) = id0; (fail_if_success (clear hid id0)); wp_delta; rw [show splitId id0 = some ("set", "__len__") from by subst hid; decide +kernel]; subst hid)
  refine wpAny_bind (wpAny_isInstance (b := true) hT2 (by rw [isSubtype_type]; kernel_rfl) ?_)
  show wpAny _ A.in1 (typeOf (Value.ref S) >>= _) _ _ _
  refine wpAny_bind (wpAny_typeOf hT2 ?_)
  refine wpAny_pure ?_
  rw [if_pos (by decide)]
  have hSf : s.heap.objs.size ∉ [H.objs.size, S] := by
    intro hm
    rcases List.mem_cons.mp hm with e | e
    · rw [hHs] at e; exact absurd e (Nat.ne_of_lt (Nat.lt_succ_self _))
    · exact absurd (List.mem_singleton.mp e) (Nat.ne_of_gt hlt)
  have hne : S ≠ H.objs.size := by rw [hHs]; exact Nat.ne_of_lt (Nat.lt_succ_of_lt hlt)
  have hS : (H.push { cls := .type "set_iterator", data := .fields #[rawInt (slotW w ps 0), rawInt ((0 : Nat) : Int), .ref S, rawInt es.length, rawInt ep] }).get? s.heap.objs.size = some { cls := .type "list", data := .seq ([] : List Value).toArray } := Heap.get?_push_of_some _ (hH ▸ Heap.get?_push_size _ rfl)
  refine wpAny_bind (wpAny_rule ?_)
  refine wpAny_bind ?_
  show wpAny _ A.in1 (updateSeq s.heap.objs.size (·.push .none) >>= fun _ => updateSeq s.heap.objs.size (·.pop)) _ _ _
  refine wpAny_bind (wpAny_updateSeq hS rfl ?_)
  have hS₂ := Heap.get?_update_self (Obj.mapSeq (·.push Value.none)) hS rfl
  refine wpAny_updateSeq (hz := by seq_fits) hS₂ rfl ?_
  have hS₃ := Heap.get?_update_self (Obj.mapSeq (·.pop)) hS₂ rfl
  have oth : ∀ b o, b ≠ s.heap.objs.size → (H.push { cls := .type "set_iterator", data := .fields #[rawInt (slotW w ps 0), rawInt ((0 : Nat) : Int), .ref S, rawInt es.length, rawInt ep] }).get? b = some o → (((H.push { cls := .type "set_iterator", data := .fields #[rawInt (slotW w ps 0), rawInt ((0 : Nat) : Int), .ref S, rawInt es.length, rawInt ep] }).update s.heap.objs.size (Obj.mapSeq (·.push Value.none))).update s.heap.objs.size (Obj.mapSeq (·.pop))).get? b = some o :=
    fun b o hb e => (Heap.get?_update_other _ _ (Ne.symm hb)).trans ((Heap.get?_update_other _ _ (Ne.symm hb)).trans e)
  have hLI : H.objs.size ≠ s.heap.objs.size := by rw [hHs]; exact Nat.succ_ne_self _
  refine wpAny_pure ⟨plainId_quiet F.plain_extend_loop _, codeAny_extend_loopS (walksSet (A := A.in1) hh H.objs.size S hne W).toS (by rw [sizeLine_eq]; omega) _ hSf _ its.length 0 _ _ _ rfl (Nat.zero_le _) ⟨oth _ _ hLI (Heap.get?_push_size _ rfl), oth _ _ (Nat.ne_of_lt hlt) (Heap.get?_push_of_some _ ho1)⟩ hS₃ (ItemsOf.nil _) fun s' acc' c' hm hS' hacc => ?_⟩
  show wpAny _ A (load s.heap.objs.size >>= _) _ _ s'
  refine wpAny_bind (wpAny_load hS' ?_)
  first | (refine' ex4 (s') ?_; intro _ _ _ _ _ ) | (refine' ex3 (s') ?_; intro _ _ _ h9e; walk_at "sp 2") | (refine' ex2 (s') ?_; intro _ _ h9e; walk_at "sp 3") | (refine' ex1 (s') ?_; intro _ h9e; walk_at "sp 4") | (refine' and4 (s') ?_; intro _ _ _ h9e; walk_at "sp 2") | (refine' and3 (s') ?_; intro _ _ h9e; walk_at "sp 3") | (refine' and2 (s') ?_; intro _ h9e; walk_at "sp 4") | (obtain ⟨_, _, _, _, _⟩ := s')
  rename_i h' g' d' tk' os'
  try (clear s')
  have eg : g' = s.gens := hm.gens
  have ed : d' = s.drawn := hm.drawn
  have eo : os' = s.os := hm.os
  subst eg ed eo
  have e : acc'.toList = its := by
    apply List.ext_getElem?
    intro i
    obtain ⟨h3, h4⟩ := hacc
    by_cases hi : i < acc'.size
    · have q := h4 i acc'[i] (by simp [hi])
      rw [q]; simp [hi]
    · rw [List.getElem?_eq_none (by simp; omega), List.getElem?_eq_none (by rw [← h3]; omega)]
  show wpAny _ _ (pure acc'.toList) _ _ _
  rw [e]
  refine wpAny_pure ?_
  refine hQ h' tk' fun b o eb => ?_
  have hlt := Heap.lt_size eb
  refine hm.heap b o (fun hb => ?_) (oth b o (Nat.ne_of_lt hlt) (Heap.get?_push_of_some _ (hH ▸ Heap.get?_push_of_some _ eb)))
  rcases List.mem_cons.mp hb with e | e
  · exact absurd hlt (e ▸ Nat.lt_irrefl _)
  · rw [List.mem_singleton.mp e, hHs] at hlt; exact absurd hlt (Nat.not_lt.mpr (Nat.le_succ _))
end

section
variable {prog : Program} {w : World} {A : Around} {E : Value → Shared → Prop} {s : Shared} {h₀ : Heap} {L : Addr} {m : Str → Option Value} {news : Led}
theorem sortedSet {S : Addr} {es ps} {ep : Nat} {its} {ns : List Int} {Q : Value → Shared → Prop} (hh : A.handled = none) (F : Fr h₀ L s.heap m) (N : News h₀ L s.heap news)
    (ho : s.heap.get? S = some (setO es ps (!w.params.followText "set-order") ep)) (W : WalkSet w S es ps ep its) (hI : IntsAre its ns) (h64 : its.length < 64)
    (h : ∀ D out ns' c h' tk, IntsAre out ns' → ns'.Perm ns → ns'.Pairwise (· ≤ ·) → Fr h₀ L h' m → News h₀ L h' ((D, listOf (List.toArray out) c) :: news) → (∀ q ∈ news, q.1 < D) → Q (.ref D) { s with heap := h', toks := tk }) :
    wpAny (model prog w) A (call (.builtin "sorted") [.ref S]) Q E s := by
  refine Calls.call_function_entry kind_sorted plain_sorted entry_sorted (args_sorted1 _) ?_
  unfold Builtin.«sorted»
  refine wpAny_bind (m := checkCount "sorted" 1 1 _) (wpAny_pure ?_)
  refine wpAny_bind (collect_setO (by simp [hh]) ho W (by omega) fun h1 tk hk => ?_)
  refine wpAny_bind (wpAny_newList ?_ (by rw [sizeLine_eq]; omega))
  have F1 : Fr h₀ L h1 m := F.kept hk
  have N1 : News h₀ L h1 news := N.grown hk
  have hD : L < h1.objs.size := F1.ns.lt
  have haL : h1.objs.size ≠ L := Nat.ne_of_gt hD
  have ha0 : h₀.get? h1.objs.size = none := Heap.get?_none_of_le (Nat.le_trans F1.above (Nat.le_of_lt hD))
  have hna : ∀ p ∈ news, p.1 ≠ h1.objs.size := fun p hp => Nat.ne_of_lt (Heap.lt_size (N1 p hp).1)
  have hoL : (h1.push (seqObj "list" its.toArray 0)).get? h1.objs.size = some (seqObj "list" its.toArray 0) := Heap.get?_push_size _ rfl
  have s1 := Heap.SameBut.update (h1.push (seqObj "list" its.toArray 0)) h1.objs.size (Obj.mapSeq fun _ => (#[] : Array Value))
  obtain ⟨e1, ho1⟩ : ∃ e1, ((h1.push (seqObj "list" its.toArray 0)).update h1.objs.size (Obj.mapSeq fun _ => (#[] : Array Value))).get? h1.objs.size = some (seqObj "list" #[] e1) := ⟨_, get?_update_seq hoL fun _ => #[]⟩
  refine wpAny_bind (wpAny_holding (wpAny_call_entry slot_list_sort ⟨_, hoL, rfl⟩ entry_list_sort (list_sort_tree hoL hI h64 fun out ns' a1 a2 a3 => ⟨_, rfl, ?_⟩) (args_list_sort _)))
  refine wpAny_pure ⟨_, rfl, ?_⟩
  have F3 : Fr h₀ L ((((h1.push (seqObj "list" its.toArray 0)).update h1.objs.size (Obj.mapSeq fun _ => (#[] : Array Value))).push (seqObj "tuple" its.toArray 0)).push (seqObj "list" #[] 0)) m := ((kas_fr (F1.push _) s1 haL ha0).push _).push _
  have N2 : News h₀ L ((((h1.push (seqObj "list" its.toArray 0)).update h1.objs.size (Obj.mapSeq fun _ => (#[] : Array Value))).push (seqObj "tuple" its.toArray 0)).push (seqObj "list" #[] 0)) news :=
    (kas_news (N1.grown fun b x e => Heap.get?_push_of_some _ e) s1 hna).grown fun b x e => Heap.get?_push_of_some _ (Heap.get?_push_of_some _ e)
  have hoa : ((((h1.push (seqObj "list" its.toArray 0)).update h1.objs.size (Obj.mapSeq fun _ => (#[] : Array Value))).push (seqObj "tuple" its.toArray 0)).push (seqObj "list" #[] 0)).get? h1.objs.size = some (seqObj "list" #[] e1) := Heap.get?_push_of_some _ (Heap.get?_push_of_some _ ho1)
  have s2 := Heap.SameBut.update ((((h1.push (seqObj "list" its.toArray 0)).update h1.objs.size (Obj.mapSeq fun _ => (#[] : Array Value))).push (seqObj "tuple" its.toArray 0)).push (seqObj "list" #[] 0)) h1.objs.size (Obj.mapSeq fun _ => out)
  obtain ⟨c2, hc2⟩ : ∃ c2, (((((h1.push (seqObj "list" its.toArray 0)).update h1.objs.size (Obj.mapSeq fun _ => (#[] : Array Value))).push (seqObj "tuple" its.toArray 0)).push (seqObj "list" #[] 0)).update h1.objs.size (Obj.mapSeq fun _ => out)).get? h1.objs.size = some (seqObj "list" out c2) := ⟨_, get?_update_seq hoa fun _ => out⟩
  refine h h1.objs.size out.toList ns' c2 _ tk a1 a2 a3 (kas_fr F3 s2 haL ha0) ?_ fun q hq => Heap.lt_size (N1 q hq).1
  intro p hp
  rcases List.mem_cons.mp hp with rfl | hp
  · exact ⟨hc2, haL, ha0⟩
  · exact kas_news N2 s2 hna p hp
end

section
variable {prog : Program} {w : World} {A : Around} {E : Value → Shared → Prop} {s : Shared}
theorem setAddX {D : Addr} {es ps led} {ep : Nat} {k : Int} {t : Tok} {es' : List (Int × Value)} {ps' : List Nat} {Q : Bool → Shared → Prop} (ho : s.heap.get? D = some (setO es ps led ep)) (hf : (⟨7, ps.toArray, #[], 0, led, 0, true⟩ : SetTable).fits es.toArray.size = true)
    (hel : ElemsOf (intKind prog w) es) (hb : es.length < 10) (hn : es.findIdx? (fun e => (intKind prog w).is k e.2) = none)
    (hl : layNew ⟨7, ps.toArray, #[], 0, led, 0, true⟩ es.toArray (hashInt k) (.int k t) = (es'.toArray, ⟨7, ps'.toArray, #[], 0, led, 0, true⟩, false, false)) (htf : (⟨7, ps'.toArray, #[], 0, led, 0, true⟩ : SetTable).tooFull = false) (hz : es'.length < 10)
    (h : ∀ h', Heap.SameBut D s.heap h' → h'.get? D = some (setO es' ps' led (ep + 1)) → Q true { s with heap := h' }) : wpAny (model prog w) A (setAddHashed D (.int k t) (hashInt k)) Q E s := by
  unfold setAddHashed setAddHashedIn
  refine wpAny_holding (wpAny_bind (wpAny_setState_of ho rfl hf ?_))
  dsimp only
  rw [byScan_of (knd := intKind prog w) rfl (by unfold scanBound; simp; omega) hel]
  simp only [↓reduceIte]
  unfold setAddByScan
  refine wpAny_bind ?_
  refine wpAny_bind (wpAny_rule ?_)
  refine wpAny_bind (wpAny_setScan_of (knd := intKind prog w) (intKind_is _ _ _ _) ho rfl hf hel ?_)
  rw [show es.toArray.toList = es from rfl, hn]
  dsimp only
  rw [hl]
  dsimp only
  refine wpAny_bind (wpAny_pure ?_)
  rw [if_pos rfl]
  refine wpAny_bind ?_
  rw [hashByValue_scannable 8 rfl]
  refine wpAny_pure ?_
  refine wpAny_bind (wpAny_storeSet_of ho rfl ?_ (by rw [sizeLine_eq]; simp; omega))
  rw [if_neg (by rw [if_pos (show plainKind (.int k t) = true from rfl), htf]; simp)]
  refine wpAny_pure ?_
  dsimp only
  refine wpAny_pure (h _ (Heap.SameBut.update ..) ?_)
  have hg := Heap.get?_update_self (Obj.putSet es'.toArray ⟨7, ps'.toArray, #[], 0, led, 0, true⟩) ho (by rfl)
  exact hg
theorem setAddSame {D : Addr} {es ps led} {ep : Nat} {k : Int} {t : Tok} {j : Nat} {Q : Bool → Shared → Prop} (ho : s.heap.get? D = some (setO es ps led ep)) (hf : (⟨7, ps.toArray, #[], 0, led, 0, true⟩ : SetTable).fits es.toArray.size = true)
    (hel : ElemsOf (intKind prog w) es) (hb : es.length < 10) (hn : es.findIdx? (fun e => (intKind prog w).is k e.2) = some j)
    (h : Q false s) : wpAny (model prog w) A (setAddHashed D (.int k t) (hashInt k)) Q E s := by
  unfold setAddHashed setAddHashedIn
  refine wpAny_holding (wpAny_bind (wpAny_setState_of ho rfl hf ?_))
  dsimp only
  rw [byScan_of (knd := intKind prog w) rfl (by unfold scanBound; simp; omega) hel]
  simp only [↓reduceIte]
  unfold setAddByScan
  refine wpAny_bind ?_
  refine wpAny_bind (wpAny_rule ?_)
  refine wpAny_bind (wpAny_setScan_of (knd := intKind prog w) (intKind_is _ _ _ _) ho rfl hf hel ?_)
  rw [show es.toArray.toList = es from rfl, hn]
  exact wpAny_pure (wpAny_pure h)
end

/-- what set.__init__ leaves behind: the set at S with what holds of it, all else as it was -/
def SetGot (S : Addr) (O : Obj → Prop) (s : Shared) (r : Value) (s₂ : Shared) : Prop :=
  r = .none ∧ ∃ h' tk o, s₂ = { s with heap := h', toks := tk } ∧ h'.get? S = some o ∧ O o ∧ ∀ b o, @Ne Nat b S → s.heap.get? b = some o → h'.get? b = some o
section
variable {prog : Program} {w : World} {A : Around} {R : Result → Shared → Prop} {I : Addr} {fp wr : List Addr} {G : Array GenState → Array GenState → Prop} {n : Nat} {P : Nat → Value → Prop} {St : Nat → Shared → Prop}
/-- a set takes up what a walk gives: what holds of its object from turn to turn -/
theorem updLoop (W : WalksS prog w A.in1 I fp wr G n P St) (S : Addr) (hSf : S ∉ fp) (O : Nat → Obj → Prop) (val : Nat → Int) (hval : ∀ i v, P i v → ∃ t, v = .int (val i) t)
    (stp : ∀ i t (s : Shared) o (Q : Bool → Shared → Prop) (E : Value → Shared → Prop), i < n → s.heap.get? S = some o → O i o → (∀ b h' o', Heap.SameBut S s.heap h' → h'.get? S = some o' → O (i + 1) o' → Q b { s with heap := h' }) →
      wpAny (model prog w) A.in1 (setAddHashed S (.int (val i) t) (hashInt (val i))) Q E s) :
    ∀ (k i : Nat) (s : Shared) (o : Obj), n - i = k → i ≤ n → St i s → s.heap.get? S = some o → O i o → (∀ s' o', Moved (S :: wr) G s s' → s'.heap.get? S = some o' → O n o' → R (.ok (.ret .none)) s') →
      codeAny (model prog w) A (.builtin "set.update.loop" ⟨[.ref S, .ref I], []⟩) R s := by
  have hSw : S ∉ wr := fun h => hSf (W.sub _ h)
  have hsub : ∀ b ∈ wr, b ∈ S :: wr := fun b hb => List.mem_cons_of_mem _ hb
  intro k
  induction k with
  | zero =>
    intro i s o hk hi hst ho hO hR
    obtain rfl : i = n := by omega
    refine codeAny_builtin PyProof.Rows.F.entry_set_update_loop ?_
    rw [Around.under_plainId PyProof.Rows.F.plain_set_update_loop _]
    show wpAny _ A.in1 (pyNext (.ref I) >>= _) _ _ s
    refine wpAny_bind (W.done s _ _ hst fun s' hm => ?_)
    show wpAny _ A.in1 (ret Value.none) _ _ s'
    exact wpAny_pure (hR s' o (hm.mono hsub) (hm.heap S o hSw ho) hO)
  | succ k ih =>
    intro i s o hk hi hst ho hO hR
    have hlt : i < n := by omega
    refine codeAny_builtin PyProof.Rows.F.entry_set_update_loop ?_
    rw [Around.under_plainId PyProof.Rows.F.plain_set_update_loop _]
    show wpAny _ A.in1 (pyNext (.ref I) >>= _) _ _ s
    refine wpAny_bind (W.item i s _ _ hlt hst fun v s' hP hst' hm => ?_)
    obtain ⟨t, rfl⟩ := hval i v hP
    show wpAny _ A.in1 (holding [Value.int (val i) t] (setAdd S (.int (val i) t)) >>= _) _ _ s'
    refine wpAny_bind (wpAny_holding ?_)
    unfold setAdd
    refine wpAny_holding ?_
    refine wpAny_bind ((intKind prog w).pyHash (k := val i) (intKind_is _ _ _ _) ?_)
    refine stp i t { s' with toks := s'.toks + 1 } o _ _ hlt (hm.heap S o hSw ho) hO fun b h' o' hsb ho' hO' => ?_
    refine wpAny_pure ⟨plainId_quiet PyProof.Rows.F.plain_set_update_loop _, ih (i + 1) _ o' (by omega) hlt (W.frame _ s' _ _ hst' (Nat.le_succ _) fun b hb o e => ?_) ho' hO' fun s'' o'' hm'' ho'' hO'' => ?_⟩
    · rw [hsb.2 b (fun h : b = S => hSf (by rw [← h]; exact hb))]; exact e
    · refine hR s'' o'' (Moved.trans W.gtrans ((hm.mono hsub).then_heap (Nat.le_succ _) fun b o hb e => ?_) hm'') ho'' hO''
      rw [hsb.2 b (fun h : b = S => hb (by rw [h]; exact List.mem_cons_self))]; exact e
end
section
variable {prog : Program} {w : World} {A : Around} {E : Value → Shared → Prop} {s : Shared}
theorem codeNewSet (a : Value) {Q₁ : Value → Shared → Prop}
    (h : Q₁ (.ref s.heap.objs.size) { s with heap := s.heap.push (setO [] [] (!w.params.followText "set-order") 0) }) :
    codeAny (model prog w) A (.call (.builtin "set.__new__") ⟨[.type "set", a], []⟩) (wants Q₁ E) s := by
  refine codeAny_of_tree ?_
  show wpAny _ A.in1 (do checkBuiltinCall "set.__new__" ⟨[.type "set", a], []⟩; again (.builtin "set.__new__" ⟨[.type "set", a], []⟩)) _ _ s
  refine wpAny_bind (wpAny_of_eq (F.newCall_set_1 a) (wpAny_pure ⟨plainId_quiet F.plain_set_new _, codeAny_builtin F.entry_set_new ?_⟩))
  rw [Around.under_plainId F.plain_set_new _]
  unfold Builtin.«set.__new__» Builtin.Frozenset.newClass newSet
  have hsub := sub_set_self
  first | (refine' ex4 (s) ?_; intro _ _ _ _ _ ) | (refine' ex3 (s) ?_; intro _ _ _ h9e; walk_at "sp 2") | (refine' ex2 (s) ?_; intro _ _ h9e; walk_at "sp 3") | (refine' ex1 (s) ?_; intro _ h9e; walk_at "sp 4") | (refine' and4 (s) ?_; intro _ _ _ h9e; walk_at "sp 2") | (refine' and3 (s) ?_; intro _ _ h9e; walk_at "sp 3") | (refine' and2 (s) ?_; intro _ h9e; walk_at "sp 4") | (obtain ⟨_, _, _, _, _⟩ := s)
  rename_i hp g d tk os
  try (clear s)
  dsimp only
  generalize hN : setsByText = N at *
  wp_walk
  subst hN
  refine wpAny_byText ?_
  dsimp only
  simp only [newObj]
  refine wpAny_bind (wpAny_alloc (wpAny_pure ?_))
  exact wpAny_pure h
/-- set(list) -/
theorem setInit {S l : Addr} {items : Array Value} (O : Nat → Obj → Prop) (val : Nat → Int) (hh : A.handled = none) (hS : s.heap.get? S = some (setO [] [] (!w.params.followText "set-order") 0)) (hl : s.heap.IsList l items) (hne : l ≠ S)
    (hval : ∀ (i : Nat) (v : Value), items[i]? = some v → ∃ t, v = Value.int (val i) t) (h0 : O 0 (setO [] [] (!w.params.followText "set-order") 0))
    (stp : ∀ i t (s : Shared) o (Q : Bool → Shared → Prop) (E : Value → Shared → Prop) (S : Addr) (A : Around), i < items.size → s.heap.get? S = some o → O i o → (∀ b h' o', Heap.SameBut S s.heap h' → h'.get? S = some o' → O (i + 1) o' → Q b { s with heap := h' }) →
      wpAny (model prog w) A (setAddHashed S (.int (val i) t) (hashInt (val i))) Q E s) :
    codeAny (model prog w) A (.call (.builtin "set.__init__") ⟨[.ref S, .ref l], []⟩) (wants (SetGot S (O items.size) s) E) s := by
  have hT : s.TypeIs (.ref S) "set" := ⟨_, hS, rfl⟩
  refine codeAny_call_builtin F.called_set.init.plain F.entry_set_init (check_set_init_1 hT ?_)
  have hTl : s.TypeIs (.ref l) "list" := hl.typeIs
  have hsls := F.sub_list_set
  have hslf := F.sub_list_frozenset
  unfold Builtin.«set.__init__» noKeywords Builtin.Frozenset.updateFrom
  generalize hQ : SetGot S (O items.size) s = QQ
  generalize hPI : pyIter = PI
  wp_walk
  subst hPI
  refine wpAny_pyIter_list hl (wpAny_bind (wpAny_runValue ?_))
  have hlS : l < s.heap.objs.size := by obtain ⟨o, ho, _⟩ := hl; exact Heap.lt_size ho
  have hneI := Nat.ne_of_lt hlS
  have hSI := Nat.ne_of_lt (Heap.lt_size hS)
  have hSf : S ∉ [s.heap.objs.size, l] := fun hm => (List.mem_cons.mp hm).elim hSI fun e => hne (List.mem_singleton.mp e).symm
  refine updLoop ((Walks.list (by simp [hh]) _ l hneI items).toS) S hSf O val hval (fun i t s o Q E hi ho hO hQ => stp i t s o Q E _ _ hi ho hO hQ) (items.size - 0) 0 _ _ rfl (Nat.zero_le _)
    ⟨⟨_, Heap.get?_push_size _ rfl, rfl, rfl⟩, (hl.push _)⟩ (Heap.get?_push_of_some _ hS) h0 fun s' o' hm ho' hO' => wpAny_pure (wpAny_pure ?_)
  subst hQ
  refine ⟨rfl, s'.heap, s'.toks, o', ?_, ho', hO', fun b o hb e => hm.heap b o (fun hm2 => ?_) (Heap.get?_push_of_some _ e)⟩
  · rw [← hm.gens, ← hm.drawn, ← hm.os]
  · rcases List.mem_cons.mp hm2 with e2 | e2
    · exact hb e2
    · rw [List.mem_singleton.mp e2] at e
      exact absurd (Heap.lt_size e) (Nat.lt_irrefl _)
theorem setOfList {l : Addr} {items : Array Value} {Q : Value → Shared → Prop} (O : Nat → Obj → Prop) (val : Nat → Int) (hh : A.handled = none) (hl : s.heap.IsList l items) (hval : ∀ (i : Nat) (v : Value), items[i]? = some v → ∃ t, v = Value.int (val i) t)
    (h0 : O 0 (setO [] [] (!w.params.followText "set-order") 0))
    (stp : ∀ i t (s : Shared) o (Q : Bool → Shared → Prop) (E : Value → Shared → Prop) (S : Addr) (A : Around), i < items.size → s.heap.get? S = some o → O i o → (∀ b h' o', Heap.SameBut S s.heap h' → h'.get? S = some o' → O (i + 1) o' → Q b { s with heap := h' }) →
      wpAny (model prog w) A (setAddHashed S (.int (val i) t) (hashInt (val i))) Q E s)
    (h : ∀ (h' : Heap) (tk : Nat) o, h'.get? s.heap.objs.size = some o → O items.size o → (∀ b o, s.heap.get? b = some o → h'.get? b = some o) → Q (.ref s.heap.objs.size) { s with heap := h', toks := tk }) :
    wpAny (model prog w) A (call (.type "set") [.ref l]) Q E s := by
  obtain ⟨c, tl, hmro⟩ := F.called_set.mro
  have hmade := F.called_set.made
  have hsub := F.called_set.sub
  refine wpAny_call (codeAny_of_tree ?_)
  show wpAny _ _ (callAny (.type "set") _) _ _ _
  refine wpAny_pure ⟨Code.quiet_builtin _ (by decide +kernel), codeAny_builtin F.entry_type_call ?_⟩
  rw [Around.under_plain (weight_type_call_type "set" [.ref l] []) rfl]
  have h1 := F.called_set.notType
  have h2 := F.called_set.canCreate
  have hct := F.typeCall_set_1 (.ref l)
  repeat (any_goals (first | assumption | wp_step))
  refine codeAny_mono (codeNewSet (.ref l) (E := E) (Q₁ := fun obj s₁ => obj = .ref s.heap.objs.size ∧ s₁ = { s with heap := s.heap.push (setO [] [] (!w.params.followText "set-order") 0) }) ⟨rfl, rfl⟩) fun r s₁ hr => ?_
  cases r with
  | error e => exact hr
  | ok fl =>
    cases fl with
    | ret obj =>
      obtain ⟨rfl, rfl⟩ := hr
      have hS : (s.heap.push (setO [] [] (!w.params.followText "set-order") 0)).get? s.heap.objs.size = some (setO [] [] (!w.params.followText "set-order") 0) := Heap.get?_push_size _ rfl
      have hT : Shared.TypeIs { s with heap := s.heap.push (setO [] [] (!w.params.followText "set-order") 0) } (.ref s.heap.objs.size) "set" := ⟨_, hS, rfl⟩
      have hli := F.called_set.init.lookup
      have hbi := F.called_set.init.bind (.ref s.heap.objs.size)
      repeat (any_goals (first | assumption | wp_step))
      refine codeAny_mono (setInit (E := E) O val (by simp [hh]) hS (hl.push _) (Nat.ne_of_lt ?_) hval h0 stp) fun r₂ s₂ hr₂ => ?_
      · obtain ⟨o, ho, _⟩ := hl; exact Heap.lt_size ho
      · cases r₂ with
        | error e => exact hr₂
        | ok fl₂ =>
          cases fl₂ with
          | ret r =>
            first | (refine' ex1 (hr₂) ?_; intro _ _ ) | (refine' and2 (hr₂) ?_; intro _ _ ) | (obtain ⟨_, _⟩ := hr₂)
            rename_i e9x174 r9x175
            try (clear hr₂)
            subst e9x174
            first | (refine' ex4 (r9x175) ?_; intro _ _ _ _ _ ) | (refine' ex3 (r9x175) ?_; intro _ _ _ h9e; walk_at "sp 2") | (refine' ex2 (r9x175) ?_; intro _ _ h9e; walk_at "sp 3") | (refine' ex1 (r9x175) ?_; intro _ h9e; walk_at "sp 4") | (refine' and4 (r9x175) ?_; intro _ _ _ h9e; walk_at "sp 2") | (refine' and3 (r9x175) ?_; intro _ _ h9e; walk_at "sp 3") | (refine' and2 (r9x175) ?_; intro _ h9e; walk_at "sp 4") | (obtain ⟨_, _, _, _, _⟩ := r9x175)
            rename_i h' tk o e9x179 r9x180
            try (clear r9x175)
            subst e9x179
            obtain ⟨ho', hO', hk'⟩ := r9x180
            repeat (any_goals (first | assumption | wp_step))
            exact h _ _ o ho' hO' fun b o e => hk' b o (Nat.ne_of_lt (Heap.lt_size e)) (Heap.get?_push_of_some _ e)
          | _ => exact hr₂.elim
    | _ => exact hr.elim
end

/-- the ints of a set of two, in order -/
def d2 (a b : Nat) : List Nat := if a = b then [a] else if a < b then [a, b] else [b, a]
def es2 (a b : Nat) (ta tb : Tok) : List (Int × Value) := if a = b then [((a : Int), .int (a : Int) ta)] else if a < b then [((a : Int), .int (a : Int) ta), ((b : Int), .int (b : Int) tb)] else [((b : Int), .int (b : Int) tb), ((a : Int), .int (a : Int) ta)]
theorem lay1 (a : Nat) (t : Tok) (led : Bool) (ha : a < 4) : layNew ⟨7, ([] : List Nat).toArray, #[], 0, led, 0, true⟩ ([] : List (Int × Value)).toArray (hashInt (a : Int)) (.int (a : Int) t) = ([((a : Int), Value.int (a : Int) t)].toArray, ⟨7, [a].toArray, #[], 0, led, 0, true⟩, false, false) := by
  obtain rfl | rfl | rfl | rfl : a = 0 ∨ a = 1 ∨ a = 2 ∨ a = 3 := by omega
  all_goals kernel_rfl
theorem lay2 (a b : Nat) (ta tb : Tok) (led : Bool) (ha : a < 4) (hb : b < 4) (hne : a ≠ b) : layNew ⟨7, [a].toArray, #[], 0, led, 0, true⟩ ([((a : Int), Value.int (a : Int) ta)] : List (Int × Value)).toArray (hashInt (b : Int)) (.int (b : Int) tb) = ((es2 a b ta tb).toArray, ⟨7, (d2 a b).toArray, #[], 0, led, 0, true⟩, false, false) := by
  obtain rfl | rfl | rfl | rfl : a = 0 ∨ a = 1 ∨ a = 2 ∨ a = 3 := by omega
  all_goals obtain rfl | rfl | rfl | rfl : b = 0 ∨ b = 1 ∨ b = 2 ∨ b = 3 := by omega
  all_goals first | exact absurd rfl hne | kernel_rfl
theorem below2 (a b : Nat) (ha : a < 4) (hb : b < 4) : ∀ i, i ≤ (d2 a b).length → SetTable.below (d2 a b).toArray (slotOf (d2 a b) i) = i := by
  have h : ∀ a < 4, ∀ b < 4, ∀ i, i < (d2 a b).length + 1 → SetTable.below (d2 a b).toArray (slotOf (d2 a b) i) = i := by decide +kernel
  exact fun i hi => h a ha b hb i (Nat.lt_succ_of_le hi)
theorem sort2 (a b : Nat) : (natI (d2 a b)).Pairwise (· ≤ ·) := by
  unfold d2 natI
  split
  · simp
  · split
    · simp; omega
    · simp; omega
theorem es2_len (a b : Nat) (ta tb : Tok) : (es2 a b ta tb).length = (d2 a b).length := by
  unfold es2 d2
  split
  · rfl
  · split <;> rfl
theorem es2_snd (a b : Nat) (ta tb : Tok) : IntsAre ((es2 a b ta tb).map (·.2)) (natI (d2 a b)) := by
  unfold es2 d2 natI
  split
  · exact .cons _ _ .nil
  · split
    · exact .cons _ _ (.cons _ _ .nil)
    · exact .cons _ _ (.cons _ _ .nil)
theorem len2 {α : Type} {l : List α} (h : l.length = 2) : ∃ x y, l = [x, y] := by
  cases l with
  | nil => cases h
  | cons x l => cases l with
    | nil => cases h
    | cons y l => cases l with
      | nil => exact ⟨x, y, rfl⟩
      | cons z l => cases h
theorem pick2 (f : Nat → Nat) (es : List (Int × Value)) (h : es.length = 1 ∨ es.length = 2) : (pickOrder f es.toArray).toList = es ∨ (pickOrder f es.toArray).toList = es.reverse := by
  rcases h with h | h
  · obtain ⟨x, rfl⟩ := List.length_eq_one_iff.mp h
    left
    simp [pickOrder, pickOrder.go, Nat.mod_one]
  · obtain ⟨x, y, rfl⟩ := len2 h
    rcases Nat.mod_two_eq_zero_or_one (f 0) with e | e
    · left; simp [pickOrder, pickOrder.go, e, Nat.mod_one]
    · right; simp [pickOrder, pickOrder.go, e, Nat.mod_one]
theorem ints_rev {vs : List Value} {ns : List Int} (h : IntsAre vs ns) : IntsAre vs.reverse ns.reverse := by
  induction h with
  | nil => exact .nil
  | cons n t _ ih => rw [List.reverse_cons, List.reverse_cons]; exact ih.append (.cons n t .nil)
theorem walk2 (w : World) (S : Addr) (a b : Nat) (ta tb : Tok) (ep : Nat) (ha : a < 4) (hb : b < 4) : ∃ its ns, WalkSet w S (es2 a b ta tb) (d2 a b) ep its ∧ IntsAre its ns ∧ ns.Perm (natI (d2 a b)) ∧ its.length < 64 := by
  have hl := es2_len a b ta tb
  have h12 : (es2 a b ta tb).length = 1 ∨ (es2 a b ta tb).length = 2 := by
    unfold es2; split
    · exact .inl rfl
    · split <;> exact .inr rfl
  have hI := es2_snd a b ta tb
  have fit : ∀ led, (⟨7, (d2 a b).toArray, #[], 0, led, 0, true⟩ : SetTable).fits (es2 a b ta tb).toArray.size = true := by
    intro led
    have e0 : (#[] : Array Nat).size = 0 := rfl
    simp only [SetTable.fits, SetTable.fill, List.size_toArray, hl, beq_self_eq_true, Bool.true_and, decide_eq_true_eq, e0]
    rw [← hl]; omega
  cases hbt : w.params.followText "set-order" with
  | false =>
    refine ⟨(es2 a b ta tb).map (·.2), _, ⟨fit, by simp, hl.symm, fun h => absurd (hbt.symm.trans h) Bool.false_ne_true, fun _ => ⟨rfl, below2 a b ha hb⟩⟩, hI, .refl _, by simp; omega⟩
  | true =>
    rcases pick2 (w.params.setOrder S ep) _ h12 with e | e
    · exact ⟨(es2 a b ta tb).map (·.2), _, ⟨fit, by simp, hl.symm, fun _ => by rw [e], fun h => absurd (hbt.symm.trans h) (by decide)⟩, hI, .refl _, by simp; omega⟩
    · exact ⟨((es2 a b ta tb).map (·.2)).reverse, _, ⟨fit, by simp, hl.symm, fun _ => by rw [e, List.map_reverse], fun h => absurd (hbt.symm.trans h) (by decide)⟩, (ints_rev hI), List.reverse_perm _, by simp; omega⟩

section
variable {prog : Program} {w : World} {A : Around} {E : Value → Shared → Prop} {s : Shared} {h₀ : Heap} {L : Addr} {m : Str → Option Value} {news : Led}
def setI (a b : Nat) (led : Bool) : Nat → Obj → Prop
  | 0, o => o = setO [] [] led 0
  | 1, o => ∃ t, o = setO [((a : Int), .int (a : Int) t)] [a] led 1
  | _, o => ∃ ta tb ep, o = setO (es2 a b ta tb) (d2 a b) led ep
/-- a set that a walk meets: of the ints a and b -/
def Set2 (w : World) (a b : Nat) (o : Obj) : Prop := a < 4 ∧ b < 4 ∧ ∃ ta tb ep, o = setO (es2 a b ta tb) (d2 a b) (!w.params.followText "set-order") ep
theorem setOf2 {l : Addr} {a b : Nat} {ta tb : Tok} {k : Nat} {Q : Value → Shared → Prop} (hh : A.handled = none) (F : Fr h₀ L s.heap m) (N : News h₀ L s.heap news) (hm : (l, listOf #[.int (a : Int) ta, .int (b : Int) tb] k) ∈ news) (ha : a < 4) (hb : b < 4)
    (h : ∀ S o h' tk, Set2 w a b o → Fr h₀ L h' m → News h₀ L h' ((S, o) :: news) → (∀ q ∈ news, q.1 < S) → Q (.ref S) { s with heap := h', toks := tk }) : wpAny (model prog w) A (call (.type "set") [.ref l]) Q E s := by
  have fit1 : ∀ led, (⟨7, ([] : List Nat).toArray, #[], 0, led, 0, true⟩ : SetTable).fits ([] : List (Int × Value)).toArray.size = true := fun led => rfl
  have fit2 : ∀ led, (⟨7, [a].toArray, #[], 0, led, 0, true⟩ : SetTable).fits ([((a : Int), Value.int (a : Int) ta)]).toArray.size = true := fun led => rfl
  refine setOfList (setI a b (!w.params.followText "set-order")) (fun i => if i = 0 then (a : Int) else (b : Int)) hh (isListN N hm) ?_ rfl ?_ ?_
  · intro i v hv
    match i, hv with
    | 0, hv => exact ⟨ta, by simpa using hv.symm⟩
    | 1, hv => exact ⟨tb, by simpa using hv.symm⟩
    | i + 2, hv => simp at hv
  · intro i t s o Q E S A hi ho hO hQ
    match i, hi, hO with
    | 0, _, hO =>
      subst hO
      rw [if_pos rfl]
      exact setAddX (es' := [((a : Int), .int (a : Int) t)]) (ps' := [a]) ho (fit1 _) (fun e he => nomatch he) (by decide) rfl (lay1 a t _ ha) rfl (show 1 < 10 by decide) fun h' hs ho' => hQ _ h' _ hs ho' ⟨t, rfl⟩
    | 1, _, hO =>
      obtain ⟨t1, rfl⟩ := hO
      rw [if_neg (by decide)]
      have hel : ElemsOf (intKind prog w) [((a : Int), Value.int (a : Int) t1)] := by
        intro e he
        rw [List.mem_singleton.mp he]
        refine ⟨⟨(a : Int), intKind_is _ _ _ _, ?_⟩, rfl⟩
        obtain rfl | rfl | rfl | rfl : a = 0 ∨ a = 1 ∨ a = 2 ∨ a = 3 := by omega
        all_goals rfl
      by_cases e : a = b
      · subst e
        refine setAddSame (j := 0) ho rfl hel (show 1 < 10 by decide) ?_ (hQ _ _ _ (Heap.SameBut.refl _ _) ho ⟨t1, t1, 1, ?_⟩)
        · rw [List.findIdx?_cons, if_pos (intKind_is _ _ _ _)]
        · unfold es2 d2; rw [if_pos rfl, if_pos rfl]
      · refine setAddX (es' := es2 a b t1 t) (ps' := d2 a b) ho rfl hel (show 1 < 10 by decide) ?_ (lay2 a b t1 t _ ha hb e) ?_ ?_ fun h' hs ho' => hQ _ h' _ hs ho' ⟨t1, t, 2, rfl⟩
        · rw [List.findIdx?_cons, if_neg]
          · rfl
          · show ¬ (Value.isInt (b : Int) (.int (a : Int) t1) = true)
            simp only [Value.isInt, beq_iff_eq]
            omega
        · unfold d2; rw [if_neg e]; split <;> rfl
        · unfold es2; rw [if_neg e]; split <;> exact (show 2 < 10 by decide)
    | i + 2, hi, _ => exact absurd hi (by simp)
  · intro h' tk o ho hO hk
    first | (refine' ex3 (hO) ?_; intro _ _ _ _ ) | (refine' ex2 (hO) ?_; intro _ _ h9e; walk_at "sp 2") | (refine' ex1 (hO) ?_; intro _ h9e; walk_at "sp 3") | (refine' and4 (hO) ?_; intro _ _ _ _ ) | (refine' and3 (hO) ?_; intro _ _ h9e; walk_at "sp 2") | (refine' and2 (hO) ?_; intro _ h9e; walk_at "sp 3") | (obtain ⟨_, _, _, _⟩ := hO)
    rename_i t1 t2 ep e9x184
    try (clear hO)
    subst e9x184
    have hL : L < s.heap.objs.size := F.ns.lt
    refine h _ _ h' tk ⟨ha, hb, t1, t2, ep, rfl⟩ (F.kept hk) (fun p hp => ?_) fun q hq => Heap.lt_size (N q hq).1
    rcases List.mem_cons.mp hp with rfl | hp
    · exact ⟨ho, Nat.ne_of_gt hL, Heap.get?_none_of_le (Nat.le_trans F.above (Nat.le_of_lt hL))⟩
    · exact N.grown hk p hp
theorem sorted2 {S : Addr} {a b : Nat} {o : Obj} {Q : Value → Shared → Prop} (hh : A.handled = none) (F : Fr h₀ L s.heap m) (N : News h₀ L s.heap news) (hm : (S, o) ∈ news) (hs : Set2 w a b o)
    (h : ∀ D out c h' tk, IntsAre out (natI (d2 a b)) → Fr h₀ L h' m → News h₀ L h' ((D, listOf (List.toArray out) c) :: news) → (∀ q ∈ news, q.1 < D) → Q (.ref D) { s with heap := h', toks := tk }) :
    wpAny (model prog w) A (call (.builtin "sorted") [.ref S]) Q E s := by
  first | (refine' ex4 (hs) ?_; intro _ _ _ _ h9e; walk_at "sp 2") | (refine' ex3 (hs) ?_; intro _ _ _ h9e; walk_at "sp 3") | (refine' ex2 (hs) ?_; intro _ _ h9e; walk_at "sp 4") | (refine' ex1 (hs) ?_; intro _ h9e; walk_at "sp 5") | (refine' and6 (hs) ?_; intro _ _ _ _ _ _ ) | (refine' and4 (hs) ?_; intro _ _ _ h9e; walk_at "sp 3") | (refine' and3 (hs) ?_; intro _ _ h9e; walk_at "sp 4") | (refine' and2 (hs) ?_; intro _ h9e; walk_at "sp 5") | (obtain ⟨_, _, _, _, _, _⟩ := hs)
  rename_i ha hb ta tb ep e9x190
  try (clear hs)
  subst e9x190
  first | (refine' ex4 (walk2 w S a b ta tb ep ha hb) ?_; intro _ _ _ _ h9e; walk_at "sp 2") | (refine' ex3 (walk2 w S a b ta tb ep ha hb) ?_; intro _ _ _ h9e; walk_at "sp 3") | (refine' ex2 (walk2 w S a b ta tb ep ha hb) ?_; intro _ _ h9e; walk_at "sp 4") | (refine' ex1 (walk2 w S a b ta tb ep ha hb) ?_; intro _ h9e; walk_at "sp 5") | (refine' and6 (walk2 w S a b ta tb ep ha hb) ?_; intro _ _ _ _ _ _ ) | (refine' and4 (walk2 w S a b ta tb ep ha hb) ?_; intro _ _ _ h9e; walk_at "sp 3") | (refine' and3 (walk2 w S a b ta tb ep ha hb) ?_; intro _ _ h9e; walk_at "sp 4") | (refine' and2 (walk2 w S a b ta tb ep ha hb) ?_; intro _ h9e; walk_at "sp 5") | (obtain ⟨_, _, _, _, _, _⟩ := walk2 w S a b ta tb ep ha hb)
  rename_i its ns W hI hp h64
  refine sortedSet hh F N (N _ hm).1 W hI h64 fun D out ns' c h' tk hI' hp' hs' F' N' l => h D out c h' tk ?_ F' N' l
  have e : ns' = natI (d2 a b) := List.Perm.eq_of_pairwise (le := fun x y => x ≤ y) (fun x y _ _ h1 h2 => Int.le_antisymm h1 h2) hs' (sort2 a b) (hp'.trans hp)
  rw [← e]
  exact hI'
end

local macro_rules | `(tactic| omega) => `(tactic| lia)
theorem cup (w : World) (mean : ExcName → Option Value) (mg mb : Str → Option Value)
  (dp un : Nat) (gd : Option (List Code)) (cn : Str) (cs : Scope) (a : Addr) (ccd : Value) (cl : List (Str × Addr)) (outer : List Env) (A₀ : Around) (base h₀ : Heap) (L : Addr) (m : Str → Option Value) (s : Shared) (Q E : Value → Shared → Prop)
  (B : Below A₀ base outer h₀) (F : Fr h₀ L s.heap m) (X : (kmk.heap_1 w.params).In h₀)
  (tub cells : Addr) (cur n salt many : Int) (nt nc : Nat) (t1 t2 t3 tm : Tok) (vs : List Value) (ns : List Int) (rest : List (Addr × Obj))
  (N : News h₀ L s.heap ((tub, listOf [Value.ref cells, .int cur t1, .int n t2, .int salt t3].toArray nt) :: (cells, listOf vs.toArray nc) :: rest))
  (hne : @Ne Nat tub cells) (hne' : @Ne Nat cells tub) (hoff : OwnOff rest [tub, cells]) (hints : IntsAre vs ns) (hlen : ns.length < 100)
  (T : Top vw (looseW vw loose) mean mg mb h₀) (hk : cs.kind = .function)
  (hd1 : dp + 100 < recursionLimit) (hu1 : un + 500 < cLine)
  (hm0 : 0 < many) (hm1 : many < 100) (hcur : 0 ≤ cur) (hn0 : 0 ≤ n) (hn1 : n < 1000000) (hs0 : 0 ≤ salt) (hs1 : salt < 1009)
  (hret : ∀ (r cur' : Int) (t t1' t2' t3' : Tok) (nt' nc' : Nat) (vs' : List Value) (ns' : List Int) (h' : Heap) (tk' : Nat), 0 ≤ r → r < many → 0 ≤ cur' → IntsAre vs' ns' → ns'.length ≤ ns.length → Fr h₀ L h' m →
    News h₀ L h' ((tub, listOf [Value.ref cells, .int cur' t1', .int (n + 1) t2', .int salt t3'].toArray nt') :: (cells, listOf vs'.toArray nc') :: rest) → Q (.int r t) { s with heap := h', toks := tk' }) :
  wpAny (model PySem.Challenge.rw_qd0068_01.row.prog w) (ktrTop dp un gd cn cs L a ccd cl outer) (call (.ref 724) [.ref tub, .int many tm]) Q E s := by
  revert X; k_fill; intro X
  refine wpAny_call ?_
  k_dflt ktr_enter
  rename_i g' L' h' FG' F' N' B' X' T'
  refine wpAny_execs_cons ?_
  refine wcutF F' (fun M0 f s' => f = .next ∧ ∃ (cur' : Int) (nt' nc' : Nat) (t1' : Tok) (vs' : List Value) (ns' : List Int) (h'' : Heap) (tk' : Nat), s' = { s with heap := h'', toks := tk' } ∧ 0 ≤ cur' ∧ IntsAre vs' ns' ∧ ns'.length ≤ ns.length ∧ Fr g' L' h'' M0 ∧
    News g' L' h'' ((tub, listOf [Value.ref cells, .int cur' t1', .int n t2, .int salt t3].toArray nt') :: (cells, listOf vs'.toArray nc') :: rest)) ?_ ?_
  · cases hints
    all_goals (
      clear hret
      (try (with_reducible show wpAny _ _ _ _ _ _))
      (try k_fold)
      k_steps)
    all_goals (
      refine' ⟨rfl, _, _, _, _, _, _, _, _, rfl, ?c1, ?c2, ?c3, ?F, ?N⟩
      (case F => k_asm)
      (case N => (refine newsSub (by assumption) (List.forall_mem_cons.mpr ⟨by k_mem, List.forall_mem_cons.mpr ⟨by k_mem, fun p hp => ?_⟩⟩); repeat (first | exact hp | refine .tail _ ?_)))
      (case c1 => (try split) <;> omega)
      (case c2 => first | assumption | exact .nil | exact .cons _ _ (by assumption))
      (case c3 => (first | exact Nat.le_refl _ | exact Nat.le_succ _)))
  · skip
    intro f s' q9x197
    first | (refine' ex1 (q9x197) ?_; intro _ _ ) | (refine' and2 (q9x197) ?_; intro _ _ ) | (obtain ⟨_, _⟩ := q9x197)
    rename_i e9x198 r9x199
    try (clear q9x197)
    subst e9x198
    first | (refine' ex8 (r9x199) ?_; intro _ _ _ _ _ _ _ _ h9e; walk_at "sp 2") | (refine' ex6 (r9x199) ?_; intro _ _ _ _ _ _ h9e; walk_at "sp 4") | (refine' ex4 (r9x199) ?_; intro _ _ _ _ h9e; walk_at "sp 6") | (refine' ex3 (r9x199) ?_; intro _ _ _ h9e; walk_at "sp 7") | (refine' ex2 (r9x199) ?_; intro _ _ h9e; walk_at "sp 8") | (refine' ex1 (r9x199) ?_; intro _ h9e; walk_at "sp 9") | (refine' and6 (r9x199) ?_; intro _ _ _ _ _ h9e; walk_at "sp 5") | (refine' and4 (r9x199) ?_; intro _ _ _ h9e; walk_at "sp 7") | (refine' and3 (r9x199) ?_; intro _ _ h9e; walk_at "sp 8") | (refine' and2 (r9x199) ?_; intro _ h9e; walk_at "sp 9") | (obtain ⟨_, _, _, _, _, _, _, _, _, _⟩ := r9x199)
    rename_i cur' nt' nc' t1' vs' ns' h'' tk' e9x208 r9x209
    try (clear r9x199)
    subst e9x208
    first | (refine' ex4 (r9x209) ?_; intro _ _ _ _ _ ) | (refine' ex3 (r9x209) ?_; intro _ _ _ h9e; walk_at "sp 2") | (refine' ex2 (r9x209) ?_; intro _ _ h9e; walk_at "sp 3") | (refine' ex1 (r9x209) ?_; intro _ h9e; walk_at "sp 4") | (refine' and4 (r9x209) ?_; intro _ _ _ h9e; walk_at "sp 2") | (refine' and3 (r9x209) ?_; intro _ _ h9e; walk_at "sp 3") | (refine' and2 (r9x209) ?_; intro _ h9e; walk_at "sp 4") | (obtain ⟨_, _, _, _, _⟩ := r9x209)
    rename_i hc' hi' hl' F'' N''
    try (clear r9x209)
    clear N' F'
    dsimp only
    (try (with_reducible show wpAny _ _ _ _ _ _))
    (try k_fold)
    k_steps
    refine' hret _ _ _ _ _ _ _ _ _ _ _ _ (Int.fmod_nonneg_of_pos _ hm0) (Int.fmod_lt_of_pos _ hm0) (Int.fdiv_nonneg hc' (Int.le_of_lt hm0)) hi' hl' ?F ?N
    (case F => k_asm)
    (case N => k_asm)

theorem isFirstC (w : World) (mean : ExcName → Option Value) (mg mb : Str → Option Value)
  (dp un : Nat) (gd : Option (List Code)) (cn : Str) (cs : Scope) (a : Addr) (ccd : Value) (cl : List (Str × Addr)) (outer : List Env) (A₀ : Around) (base h₀ : Heap) (L : Addr) (m : Str → Option Value) (s : Shared) (Q E : Value → Shared → Prop)
  (B : Below A₀ base outer h₀) (F : Fr h₀ L s.heap m) (X : (kmk.heap_1 w.params).In h₀)
  (rules : Addr) (number place : Nat) (tn tp : Tok) (rs : List Row) (led sub : Led)
  (N : News h₀ L s.heap led) (hsub : ∀ p ∈ sub, p ∈ led) (hR : RowsAt sub rules rs) (hnum : number ≤ rs.length)
  (T : Top vw (looseW vw loose) mean mg mb h₀) (hk : cs.kind = .function)
  (hd1 : dp + 100 < recursionLimit) (hu1 : un + 500 < cLine)
  (hret : ∀ (h' : Heap) (tk' : Nat), Fr h₀ L h' m → News h₀ L h' led → Q (.bool (isFirst rs number place)) { s with heap := h', toks := tk' }) :
  wpAny (model PySem.Challenge.rw_qd0068_01.row.prog w) (ktrTop dp un gd cn cs L a ccd cl outer) (call (.ref 741) [.ref rules, .int number tn, .int place tp]) Q E s := by
  revert X; k_fill; intro X
  replace hR := hR.mono hsub
  clear hsub sub
  first | (refine' ex4 (hR) ?_; intro _ _ _ _ _ ) | (refine' ex3 (hR) ?_; intro _ _ _ h9e; walk_at "sp 2") | (refine' ex2 (hR) ?_; intro _ _ h9e; walk_at "sp 3") | (refine' ex1 (hR) ?_; intro _ h9e; walk_at "sp 4") | (refine' and4 (hR) ?_; intro _ _ _ h9e; walk_at "sp 2") | (refine' and3 (hR) ?_; intro _ _ h9e; walk_at "sp 3") | (refine' and2 (hR) ?_; intro _ h9e; walk_at "sp 4") | (obtain ⟨_, _, _, _, _⟩ := hR)
  rename_i vs k hm h2 hvl0
  try (clear hR)
  have hvl : vs.length < 1000 := by omega
  refine wpAny_call ?_
  k_dflt walk_at "my enterC"
  (try (with_reducible show wpAny _ _ _ _ _ _))
  (try k_fold)
  k_steps
  refine LCt.CompSrcT.ledger (by rfl) (by k_asm) (by k_asm) (by k_mem) (by rw [List.size_toArray, List.length_take, sizeLine_eq]; omega) ?_
  intro g2
  refine compTr (fun i ys => ys.isEmpty = ((rs.take number).take i).all fun r => !(r.sort == .endS && r.places.contains place)) rfl ?_ ?_
  · intro i ys hi hI v I oI C oC D m₂ h tk E' hv hC hx F2 N2 off2 ne2
    have hv' : (vs.take number)[i]? = some v := by simpa using hv
    first | (refine' ex8 ((h2.take number).get hv') ?_; intro _ _ _ _ _ _ _ _ h9e; walk_at "sp 3") | (refine' ex6 ((h2.take number).get hv') ?_; intro _ _ _ _ _ _ h9e; walk_at "sp 5") | (refine' ex4 ((h2.take number).get hv') ?_; intro _ _ _ _ h9e; walk_at "sp 7") | (refine' ex3 ((h2.take number).get hv') ?_; intro _ _ _ h9e; walk_at "sp 8") | (refine' ex2 ((h2.take number).get hv') ?_; intro _ _ h9e; walk_at "sp 9") | (refine' ex1 ((h2.take number).get hv') ?_; intro _ h9e; walk_at "sp 10") | (refine' and6 ((h2.take number).get hv') ?_; intro _ _ _ _ _ h9e; walk_at "sp 6") | (refine' and4 ((h2.take number).get hv') ?_; intro _ _ _ h9e; walk_at "sp 8") | (refine' and3 ((h2.take number).get hv') ?_; intro _ _ h9e; walk_at "sp 9") | (refine' and2 ((h2.take number).get hv') ?_; intro _ h9e; walk_at "sp 10") | (obtain ⟨_, _, _, _, _, _, _, _, _, _, _⟩ := (h2.take number).get hv')
    rename_i r hr ar kr t pl pv gl st e9x229 r9x230
    subst e9x229
    first | (refine' ex2 (r9x230) ?_; intro _ _ _ ) | (refine' ex1 (r9x230) ?_; intro _ h9e; walk_at "sp 2") | (refine' and3 (r9x230) ?_; intro _ _ _ ) | (refine' and2 (r9x230) ?_; intro _ h9e; walk_at "sp 2") | (obtain ⟨_, _, _⟩ := r9x230)
    rename_i hm1 n9x232 d9x233
    try (clear r9x230)
    first | (refine' ex4 (n9x232) ?_; intro _ _ _ _ _ ) | (refine' ex3 (n9x232) ?_; intro _ _ _ h9e; walk_at "sp 2") | (refine' ex2 (n9x232) ?_; intro _ _ h9e; walk_at "sp 3") | (refine' ex1 (n9x232) ?_; intro _ h9e; walk_at "sp 4") | (refine' and4 (n9x232) ?_; intro _ _ _ h9e; walk_at "sp 2") | (refine' and3 (n9x232) ?_; intro _ _ h9e; walk_at "sp 3") | (refine' and2 (n9x232) ?_; intro _ h9e; walk_at "sp 4") | (obtain ⟨_, _, _, _, _⟩ := n9x232)
    rename_i pvs kp hmp hip hpl
    try (clear n9x232)
    clear d9x233
    (try (with_reducible show wpAny _ _ _ _ _ _))
    (try k_fold)
    k_steps
    all_goals (
      refine' LCg.CompEnd.intro ?F ?N _ ?sub ?off ?S ⟨rfl, ?I⟩
      (case F => k_asm)
      (case N => k_asm)
      (case sub => exact fun _ h => h)
      (case off => exact off2)
      (case S => exact Or.inr ⟨_, by k_mem, rfl, _, rfl⟩)
      (case I => (rw [all_step _ hr]; simp only [srt_end] at *; simp_all)))
  · intro ys hI
    unfold LCg.FinE
    intro D3 h3 tk3 F3 N3 o3
    dsimp only
    (try (with_reducible show wpAny _ _ _ _ _ _))
    (try k_fold)
    k_steps
    rw [show ys.isEmpty = isFirst rs number place from hI.trans (h2.all_take number _)]
    refine hret _ _ (by k_asm) (newsSub (by assumption) ?_)
    intro p hp
    repeat (first | exact hp | refine .tail _ ?_)
theorem words_isfirst_1 : True := by
  k_with "call ref" => (k_here; (with_reducible show wpAny _ _ (call (Value.ref 741) [Value.ref _, Value.int _ _, Value.int _ _] []) _ _ _); k_dflt (refine' isFirstC _ _ _ _ _ _ _ _ _ _ _ _ _ _ _ _ _ _ _ _ _ ?B ?F ?X _ _ _ _ _ _ _ _ ?N ?sub ?R ?num ?T ?kK ?d ?u ?_; (case B => k_asm); (case F => k_asm); (case X => k_asm); (case N => k_asm); (case R => assumption); (case sub => walk_at "my sub"); (case num => omega); (case T => k_asm); (case kK => first | exact rfl | assumption); (case d => ktr_room); (case u => ktr_units)); intro h9 tk9 F9 N9; (try dsimp only); (try k_fold))
  trivial

def doneOf (rs : List Row) (n : Nat) : List Nat := match rs[n]? with
  | none => []
  | some r => match r.sort with
    | .endS => r.places.filter (isFirst rs n)
    | .good => r.places
    | .bad => []
theorem done_filter {ns : List Nat} {f : Nat → Bool} {i n : Nat} {ys : List Value} {t : Tok} (hn : ns[i]? = some n) (hy : IntsAre ys (natI ((ns.take i).filter f))) :
    (f n = true → IntsAre (ys ++ [.int (n : Int) t]) (natI ((ns.take (i + 1)).filter f))) ∧ (f n = false → IntsAre ys (natI ((ns.take (i + 1)).filter f))) := by
  constructor
  · intro hf
    rw [List.take_add_one, hn]
    simp only [Option.toList_some, List.filter_append, List.filter_cons, hf, if_true, List.filter_nil, natI, List.map_append, List.map_cons, List.map_nil]
    exact hy.append (.cons _ t .nil)
  · intro hf
    rw [List.take_add_one, hn]
    simp only [Option.toList_some, List.filter_append, List.filter_cons, hf, Bool.false_eq_true, if_false, List.filter_nil, List.append_nil]
    exact hy
theorem ints_get {vs : List Value} {ns : List Nat} (h : IntsAre vs (natI ns)) {i : Nat} {v : Value} (hv : vs[i]? = some v) : ∃ n t, ns[i]? = some n ∧ v = .int (n : Int) t := by
  first | (refine' ex3 (IntsAre.at h i v hv) ?_; intro _ _ _ _ ) | (refine' ex2 (IntsAre.at h i v hv) ?_; intro _ _ h9e; walk_at "sp 2") | (refine' ex1 (IntsAre.at h i v hv) ?_; intro _ h9e; walk_at "sp 3") | (refine' and4 (IntsAre.at h i v hv) ?_; intro _ _ _ _ ) | (refine' and3 (IntsAre.at h i v hv) ?_; intro _ _ h9e; walk_at "sp 2") | (refine' and2 (IntsAre.at h i v hv) ?_; intro _ h9e; walk_at "sp 3") | (obtain ⟨_, _, _, _⟩ := IntsAre.at h i v hv)
  rename_i k t e hk
  unfold natI at hk
  rw [List.getElem?_map] at hk
  cases q : ns[i]? with
  | none => rw [q] at hk; cases hk
  | some n => rw [q] at hk; cases hk; exact ⟨n, t, rfl, e⟩
theorem words_done_1 : True := by
  k_with "eval ListComp" => (k_here; lct_look; k_dflt (refine ListComp_Tt (_F₀ := by k_asm) (by with_unfolding_all rfl) (by decide) (by rfl) (by decide) (by rfl) ?_); walk_say "MINE")
  trivial
theorem doneC (w : World) (mean : ExcName → Option Value) (mg mb : Str → Option Value)
  (dp un : Nat) (gd : Option (List Code)) (cn : Str) (cs : Scope) (a : Addr) (ccd : Value) (cl : List (Str × Addr)) (outer : List Env) (A₀ : Around) (base h₀ : Heap) (L : Addr) (m : Str → Option Value) (s : Shared) (Q E : Value → Shared → Prop)
  (B : Below A₀ base outer h₀) (F : Fr h₀ L s.heap m) (X : (kmk.heap_1 w.params).In h₀)
  (rules : Addr) (number : Nat) (tn : Tok) (rs : List Row) (led sub : Led)
  (N : News h₀ L s.heap led) (hsub : ∀ p ∈ sub, p ∈ led) (hR : RowsAt sub rules rs) (hnum : number < rs.length)
  (T : Top vw (looseW vw loose) mean mg mb h₀) (hk : cs.kind = .function)
  (hd1 : dp + 200 < recursionLimit) (hu1 : un + 1000 < cLine)
  (hret : ∀ (D : Addr) (vs : List Value) (k : Nat) (h' : Heap) (tk' : Nat), IntsAre vs (natI (doneOf rs number)) → Fr h₀ L h' m → News h₀ L h' ((D, listOf vs.toArray k) :: led) → Q (.ref D) { s with heap := h', toks := tk' }) :
  wpAny (model PySem.Challenge.rw_qd0068_01.row.prog w) (ktrTop dp un gd cn cs L a ccd cl outer) (call (.ref 746) [.ref rules, .int number tn]) Q E s := by
  revert X; k_fill; intro X
  replace hR := hR.mono hsub
  clear hsub sub
  have hR' := hR
  first | (refine' ex4 (hR') ?_; intro _ _ _ _ _ ) | (refine' ex3 (hR') ?_; intro _ _ _ h9e; walk_at "sp 2") | (refine' ex2 (hR') ?_; intro _ _ h9e; walk_at "sp 3") | (refine' ex1 (hR') ?_; intro _ h9e; walk_at "sp 4") | (refine' and4 (hR') ?_; intro _ _ _ h9e; walk_at "sp 2") | (refine' and3 (hR') ?_; intro _ _ h9e; walk_at "sp 3") | (refine' and2 (hR') ?_; intro _ h9e; walk_at "sp 4") | (obtain ⟨_, _, _, _, _⟩ := hR')
  rename_i vs k hm h2 hvl0
  try (clear hR')
  have hvl : vs.length < 1000 := by omega
  have hrl : rs.length < 100 := by rw [← h2.length]; exact hvl0
  obtain ⟨v, hv⟩ : ∃ v, vs[number]? = some v := ⟨vs[number]'(by rw [h2.length]; exact hnum), by simp⟩
  first | (refine' ex8 (h2.get hv) ?_; intro _ _ _ _ _ _ _ _ h9e; walk_at "sp 3") | (refine' ex6 (h2.get hv) ?_; intro _ _ _ _ _ _ h9e; walk_at "sp 5") | (refine' ex4 (h2.get hv) ?_; intro _ _ _ _ h9e; walk_at "sp 7") | (refine' ex3 (h2.get hv) ?_; intro _ _ _ h9e; walk_at "sp 8") | (refine' ex2 (h2.get hv) ?_; intro _ _ h9e; walk_at "sp 9") | (refine' ex1 (h2.get hv) ?_; intro _ h9e; walk_at "sp 10") | (refine' and6 (h2.get hv) ?_; intro _ _ _ _ _ h9e; walk_at "sp 6") | (refine' and4 (h2.get hv) ?_; intro _ _ _ h9e; walk_at "sp 8") | (refine' and3 (h2.get hv) ?_; intro _ _ h9e; walk_at "sp 9") | (refine' and2 (h2.get hv) ?_; intro _ h9e; walk_at "sp 10") | (obtain ⟨_, _, _, _, _, _, _, _, _, _, _⟩ := h2.get hv)
  rename_i r hr ar kr t pl pv gl st e9x257 r9x258
  subst e9x257
  first | (refine' ex2 (r9x258) ?_; intro _ _ _ ) | (refine' ex1 (r9x258) ?_; intro _ h9e; walk_at "sp 2") | (refine' and3 (r9x258) ?_; intro _ _ _ ) | (refine' and2 (r9x258) ?_; intro _ h9e; walk_at "sp 2") | (obtain ⟨_, _, _⟩ := r9x258)
  rename_i hm1 n9x260 d9x261
  try (clear r9x258)
  first | (refine' ex4 (n9x260) ?_; intro _ _ _ _ _ ) | (refine' ex3 (n9x260) ?_; intro _ _ _ h9e; walk_at "sp 2") | (refine' ex2 (n9x260) ?_; intro _ _ h9e; walk_at "sp 3") | (refine' ex1 (n9x260) ?_; intro _ h9e; walk_at "sp 4") | (refine' and4 (n9x260) ?_; intro _ _ _ h9e; walk_at "sp 2") | (refine' and3 (n9x260) ?_; intro _ _ h9e; walk_at "sp 3") | (refine' and2 (n9x260) ?_; intro _ h9e; walk_at "sp 4") | (obtain ⟨_, _, _, _, _⟩ := n9x260)
  rename_i pvs kp hmp hip hpl
  try (clear n9x260)
  clear d9x261
  have hpn : pvs.length = r.places.length := by rw [hip.length]; exact List.length_map ..
  refine wpAny_call ?_
  k_dflt walk_at "my enterC"
  (try (with_reducible show wpAny _ _ _ _ _ _))
  (try k_fold)
  k_steps
  · refine ⟨_, _, _, _, rfl, rfl, by k_asm, by k_asm, by k_mem, Nat.le_trans (Nat.le_of_lt hpl) (Nat.le_of_ble_eq_true rfl : 100 ≤ sizeLine), ?_⟩
    rintro s2 ⟨g2, rfl⟩
    refine compTr (fun i ys => IntsAre ys (natI ((r.places.take i).filter (isFirst rs number)))) .nil ?_ ?_
    · intro i ys hi hI v I oI C oC D m₂ h tk E' hv2 hC hx F2 N2 off2 ne2
      first | (refine' ex3 (ints_get hip hv2) ?_; intro _ _ _ _ ) | (refine' ex2 (ints_get hip hv2) ?_; intro _ _ h9e; walk_at "sp 2") | (refine' ex1 (ints_get hip hv2) ?_; intro _ h9e; walk_at "sp 3") | (refine' and4 (ints_get hip hv2) ?_; intro _ _ _ _ ) | (refine' and3 (ints_get hip hv2) ?_; intro _ _ h9e; walk_at "sp 2") | (refine' and2 (ints_get hip hv2) ?_; intro _ h9e; walk_at "sp 3") | (obtain ⟨_, _, _, _⟩ := ints_get hip hv2)
      rename_i p tp hp e9x270
      subst e9x270
      (try (with_reducible show wpAny _ _ _ _ _ _))
      (try k_fold)
      k_steps
      all_goals (
        refine' LCg.CompEnd.intro ?F ?N _ ?sub ?off ?S ⟨rfl, ?I⟩
        (case F => k_asm)
        (case N => k_asm)
        (case sub => exact fun _ h => h)
        (case off => exact off2)
        (case S => k_mem)
        (case I => (rename_i q9; have q8 := done_filter (t := tp) hp hI; first | exact q8.1 q9 | exact q8.2 q9)))
    · intro ys hI
      dsimp only
      unfold LCg.FinE
      intro D3 h3 tk3 F3 N3 o3
      dsimp only
      (try (with_reducible show wpAny _ _ _ _ _ _))
      (try k_fold)
      k_steps
      refine' hret _ _ _ _ _ ?i ?F ?N
      (case F => k_asm)
      (case N => (refine newsSub (by assumption) (List.forall_mem_cons.mpr ⟨by k_mem, ?_⟩); walk_at "my sub"))
      (case i => (have hse := srt_endT (by assumption); rw [hpn] at hI; rw [doneOf, hr]; simpa [hse] using hI))
  · refine' hret _ _ _ _ _ ?i ?F ?N
    (case F => k_asm)
    (case N => (refine newsSub (by assumption) (List.forall_mem_cons.mpr ⟨by k_mem, ?_⟩); walk_at "my sub"))
    (case i => (have hse := srt_goodT (by assumption); rw [doneOf, hr]; simpa [hse] using hip))
  · refine' hret _ _ _ _ _ ?i ?F ?N
    (case F => k_asm)
    (case N => (refine newsSub (by assumption) (List.forall_mem_cons.mpr ⟨by k_mem, ?_⟩); walk_at "my sub"))
    (case i => (have hse := srt_badT (Bool.eq_false_iff.mp (by assumption)) (Bool.eq_false_iff.mp (by assumption)); rw [doneOf, hr]; simp only [hse]; exact .nil))

/-- a map of locals, the names `xs` of which are set anew by `u` -/
def ovr (xs : List Str) (u m : Str → Option Value) : Str → Option Value := fun z => if xs.contains z then u z else m z
theorem ovr_of (xs : List Str) (m : Str → Option Value) : m = ovr xs m m := by
  funext z; unfold ovr; split <;> rfl
theorem ovr_set {xs : List Str} {x : Str} (hx : xs.contains x = true) (v : Option Value) (u m : Str → Option Value) : (fun y => if y = x then v else ovr xs u m y) = ovr xs (fun y => if y = x then v else u y) m := by
  funext z; unfold ovr
  by_cases e : z = x
  · subst e; simp only [if_true, hx]
  · simp only [if_neg e]
section
variable {prog : Program} {w : World} {A : Around} {E : Value → Shared → Prop} {s : Shared} {env : Env} {h₀ : Heap} {x : Str} {body : List Stmt} {Q : Flow → Shared → Prop}
def ItEndM (h₀ : Heap) (L I l : Addr) (oI : Obj) (stat : Led) (J : (Str → Option Value) → Led → Prop) (s₁ s₂ : Shared) : Prop :=
  ∃ h' tk m' nx, s₂ = { s₁ with heap := h', toks := tk } ∧ Fr h₀ L h' m' ∧ News h₀ L h' ((I, oI) :: (nx ++ stat)) ∧ (∀ p ∈ nx, @Ne Nat p.1 I ∧ @Ne Nat p.1 l) ∧ J m' nx
def ItPostM (h₀ : Heap) (L I l : Addr) (oI : Obj) (stat : Led) (J : (Str → Option Value) → Led → Prop) (s₁ : Shared) (Q : Flow → Shared → Prop) (f : Flow) (s₂ : Shared) : Prop :=
  match f with
  | .ret v => Q (.ret v) s₂
  | .brk => Q .next s₂
  | _ => CutI (ItEndM h₀ L I l oI stat J s₁ s₂)
theorem forMem {px pos : Pos} {iter : Expr} {l : Addr} {vs : List Value} {k : Nat} {m₀ : Str → Option Value} {stat var₀ : Led} (hm : (l, listOf vs.toArray k) ∈ stat) (F : Fr h₀ env.locals s.heap m₀) (N : News h₀ env.locals s.heap (var₀ ++ stat))
    (J : Nat → (Str → Option Value) → Led → Prop)
    (hx : env.kindOf x = some .local) (hp : (env.scope.kind == .class || (env.scope.kind == .module && env.locals != env.globals)) = false) (hs : ∀ x, foldedSetIterable iter env x = pure x) (hE : PassesOwn (model prog w) A env E)
    (hi : wpAny (model prog w) A (eval iter env) (fun v s' => CutI (∃ h tk, v = .ref l ∧ s' = { s with heap := h, toks := tk } ∧ Fr h₀ env.locals h m₀ ∧ News h₀ env.locals h (var₀ ++ stat))) E s)
    (hh : A.handled = none) (hoff : ∀ p ∈ var₀, @Ne Nat p.1 l) (hj : J 0 m₀ var₀)
    (turn : ∀ i v m₁ nx h tk I oI, vs[i]? = some v → @Ne Nat I l → (∀ p ∈ nx, @Ne Nat p.1 I ∧ @Ne Nat p.1 l) → (∀ p ∈ stat, @Ne Nat p.1 I) → J i m₁ nx → Fr h₀ env.locals h (fun y => if y = x then some v else m₁ y) → News h₀ env.locals h ((I, oI) :: (nx ++ stat)) →
      wpAny (model prog w) A (execs body env) (ItPostM h₀ env.locals I l oI stat (J (i + 1)) { s with heap := h, toks := tk } Q) E { s with heap := h, toks := tk })
    (done : ∀ m₁ nx h tk, J vs.length m₁ nx → Fr h₀ env.locals h m₁ → News h₀ env.locals h (nx ++ stat) → (∀ p ∈ nx, @Ne Nat p.1 l) → Q .next { s with heap := h, toks := tk }) :
    wpAny (model prog w) A (exec (.For (.Name x px) iter body [] pos) env) Q E s := by
  refine For_invX h₀ (wpAny_mono hi (fun v s' hv => ?_) fun _ _ e => e) hs hE
  first | (refine' ex3 (hv.out) ?_; intro _ _ _ _ ) | (refine' ex2 (hv.out) ?_; intro _ _ h9e; walk_at "sp 2") | (refine' ex1 (hv.out) ?_; intro _ h9e; walk_at "sp 3") | (refine' and4 (hv.out) ?_; intro _ _ _ _ ) | (refine' and3 (hv.out) ?_; intro _ _ h9e; walk_at "sp 2") | (refine' and2 (hv.out) ?_; intro _ h9e; walk_at "sp 3") | (obtain ⟨_, _, _, _⟩ := hv.out)
  rename_i h tk e9x273 r9x274
  subst e9x273
  obtain ⟨rfl, F', N'⟩ := r9x274
  exact iterH (fun nx => nx ++ stat) (fun _ => List.mem_append.mpr (.inr hm)) (fun _ _ h => List.mem_append.mpr (.inl h)) (fun nx p h => (List.mem_append.mp h).imp id fun e nx' => List.mem_append.mpr (.inr e)) J hx hp hh F' N' hoff hj
    (fun i v m₁ nx h tk I oI hv hI ho hst hJ F N => turn i v m₁ nx h tk I oI hv hI ho (fun p hp => hst p (List.mem_append.mpr (.inr hp))) hJ F N) done
end
def boolsJ (xs : List Str) (D : Addr) (k : Nat) (a b : Led) (f : Nat → List Bool) (M0 : Str → Option Value) (i : Nat) (m : Str → Option Value) (nx : Led) : Prop :=
  ∃ u vs, m = ovr xs u M0 ∧ nx = a ++ (D, listOf vs.toArray k) :: b ∧ LSm.BoolsAre vs (f i)
theorem boolsJ0 {xs : List Str} {D : Addr} {k : Nat} {a b : Led} {f : Nat → List Bool} {M0 : Str → Option Value} {vs : List Value} (h : LSm.BoolsAre vs (f 0)) : boolsJ xs D k a b f M0 0 M0 (a ++ (D, listOf vs.toArray k) :: b) := ⟨M0, vs, ovr_of xs M0, rfl, h⟩
theorem ovr_ovr {xs : List Str} {x : Str} (hx : xs.contains x = true) (v : Option Value) (u' u m : Str → Option Value) : ovr xs u' (fun y => if y = x then v else ovr xs u m y) = ovr xs u' m := by
  funext z; unfold ovr
  by_cases e : xs.contains z = true
  · rw [if_pos e, if_pos e]
  · rw [if_neg e, if_neg e]
    have : z ≠ x := fun e' => e (e' ▸ hx)
    simp only [if_neg this, if_neg e]
/-- a goal that the walk is to leave standing -/
structure Held (P : Prop) : Prop where out : P
/-- where it stands in the context, a statement's continuation is named -/
structure FoldX : Prop where
structure FoldC : Prop where
structure HoldMark : Prop where
theorem held {P : Prop} (h : Held P) : P := h.out
theorem doneOf_lt {many : Nat} {rs : List Row} (hok : ∀ r ∈ rs, ∀ p ∈ r.places, p < many) (n : Nat) : ∀ p ∈ doneOf rs n, p < many := by
  intro p hp
  unfold doneOf at hp
  cases q : rs[n]? with
  | none => rw [q] at hp; cases hp
  | some r =>
    have hr := List.mem_of_getElem? q
    rw [q] at hp
    cases q2 : r.sort <;> simp only [q2] at hp
    · exact hok r hr p (List.mem_filter.mp hp).1
    · exact hok r hr p hp
    · cases hp
theorem doneOf_len {rs : List Row} {n : Nat} {r : Row} (h : rs[n]? = some r) : (doneOf rs n).length ≤ r.places.length := by
  unfold doneOf
  rw [h]
  cases q : r.sort <;> simp only [q]
  · exact List.length_filter_le ..
  · exact Nat.le_refl _
  · exact Nat.zero_le _
theorem filt_nil {l : List Nat} {f : Nat → Bool} (h : natI (l.filter f) = []) : l.any f = false := by
  unfold natI at h
  have h := List.map_eq_nil_iff.mp h
  rw [List.any_eq_false]
  intro x hx hf
  have := List.mem_filter.mpr ⟨hx, hf⟩
  rw [h] at this
  cases this
theorem filt_some {l : List Nat} {f : Nat → Bool} (h : ¬ natI (l.filter f) = []) : l.any f = true := by
  cases q : l.any f with
  | true => rfl
  | false =>
    exact absurd (by
      unfold natI
      rw [List.filter_eq_nil_iff.mpr (fun x hx hf => List.any_eq_false.mp q x hx hf)]
      rfl) h
theorem offB0 {d : Addr} {l : List (Addr × Obj)} (h : ∀ p ∈ l, @LT.lt Nat _ p.1 d) : ∀ p ∈ l, p.1 ≠ d := fun p hp => Nat.ne_of_lt (h p hp)
theorem words_loops_1 : True := by
  k_with "eval Call" => (k_here; (rename FoldX => fX9); k_fold)
  k_with "eval Call" => (k_here; (rename FoldC => fC9); k_fold)
  k_with "exec Assign" => (k_here; (rename FoldX => fX9); k_fold)
  k_with "exec Expr" => (k_here; (rename FoldX => fX9); k_fold)
  k_with "exec If" => (k_here; (rename FoldX => fX9); k_fold)
  k_with "exec Return" => (k_here; (rename FoldX => fX9); k_fold)
  k_with "exec For Name Subscript cons nil" => (k_here; (rename HoldMark => hM9); (with_reducible show wpAny _ _ (exec (PySem.Stmt.For _ _ _ _ _) _) _ _ _); refine held ?_)
  k_with "exec For Name Call cons nil" => (k_here; (rename HoldMark => hM9); (with_reducible show wpAny _ _ (exec (PySem.Stmt.For _ _ _ _ _) _) _ _ _); refine held ?_)
  k_with "exec For Name Name cons nil" => (k_here; (rename HoldMark => hM9); (with_reducible show wpAny _ _ (exec (PySem.Stmt.For _ _ _ _ _) _) _ _ _); refine held ?_)
  k_with "call ref" => (k_here; (with_reducible show wpAny _ _ (call (Value.ref 746) [Value.ref _, Value.int _ _] []) _ _ _); k_dflt (refine' doneC _ _ _ _ _ _ _ _ _ _ _ _ _ _ _ _ _ _ _ _ _ ?B ?F ?X _ _ _ _ _ _ ?N ?sub ?R ?num ?T ?kK ?d ?u ?_; (case B => k_asm); (case F => k_asm); (case X => k_asm); (case N => k_asm); (case R => assumption); (case sub => walk_at "my sub"); (case num => omega); (case T => k_asm); (case kK => first | exact rfl | assumption); (case d => ktr_room); (case u => ktr_units)); intro D9 vs9 k9 h9 tk9 i9 F9 N9; (try dsimp only); (try k_fold))
  k_with "compareOp NotEq ref ref" => (k_here; (with_reducible show wpAny _ _ (compareOp CmpOp.NotEq (Value.ref _) (Value.ref _)) _ _ _); k_dflt (refine' ke_ne_ints ?a ?b ?i IntsAre.nil ?u ?_; (case a => (refine' isListN ?n ?m; (case n => k_asm); (case m => k_mem))); (case b => (refine' isListN ?n ?m; (case n => k_asm); (case m => k_mem))); (case i => assumption); (case u => ktr_units)))
  trivial

def stepE (rs : List Row) (c : List Bool) (n : Nat) : List Bool := match rs[n]? with
  | none => c
  | some r => if (doneOf rs n).any (fun p => c.getD p false) then r.goals.foldl (fun c g => c.set g true) c else c
def sweepE (rs : List Row) (c : List Bool) : List Bool := (List.range rs.length).foldl (stepE rs) c
def lawEnt (rs : List Row) (many : Nat) : List Bool := (List.range many).foldl (fun c _ => sweepE rs c) (true :: List.replicate (many - 1) false)
/-- what a row of the law's may hold -/
structure RowOk (many : Nat) (r : Row) : Prop where
  places : ∀ p ∈ r.places, p < many
  goals : ∀ g ∈ r.goals, g < many
theorem offAll0 {d : Addr} {l : List (Addr × Obj)} (h : AllLt d l) : ∀ p ∈ l, p.1 ≠ d := fun p hp => Nat.ne_of_lt (ktn_ltOf h p hp)
theorem offB1 {d : Addr} {l : List (Addr × Obj)} (h : ∀ p ∈ l, p.1 < d) : ∀ p ∈ l, p.1 ≠ d + 1 := fun p hp => Nat.ne_of_lt (Nat.lt_succ_of_lt (h p hp))
theorem offB2 {d : Addr} {l : List (Addr × Obj)} (h : ∀ p ∈ l, p.1 < d) : ∀ p ∈ l, p.1 ≠ d + 1 + 1 := fun p hp => Nat.ne_of_lt (Nat.lt_succ_of_lt (Nat.lt_succ_of_lt (h p hp)))
theorem offAll1 {d : Addr} {l : List (Addr × Obj)} (h : AllLt d l) : ∀ p ∈ l, p.1 ≠ d + 1 := fun p hp => Nat.ne_of_lt (Nat.lt_succ_of_lt (ktn_ltOf h p hp))
theorem offAll2 {d : Addr} {l : List (Addr × Obj)} (h : AllLt d l) : ∀ p ∈ l, p.1 ≠ d + 1 + 1 := fun p hp => Nat.ne_of_lt (Nat.lt_succ_of_lt (Nat.lt_succ_of_lt (ktn_ltOf h p hp)))
theorem setAll_len (gs : List Nat) (c : List Bool) : (gs.foldl (fun c g => c.set g true) c).length = c.length := by
  induction gs generalizing c with
  | nil => rfl
  | cons g gs ih => rw [List.foldl_cons, ih, List.length_set]
theorem stepE_len (rs : List Row) (c : List Bool) (n : Nat) : (stepE rs c n).length = c.length := by
  unfold stepE
  split
  · rfl
  · split
    · exact setAll_len _ _
    · rfl
theorem foldStep_len (rs : List Row) (ns : List Nat) (c : List Bool) : (ns.foldl (stepE rs) c).length = c.length := by
  induction ns generalizing c with
  | nil => rfl
  | cons g gs ih => rw [List.foldl_cons, ih, stepE_len]
theorem foldSweep_len (rs : List Row) (ns : List Nat) (c : List Bool) : (ns.foldl (fun c _ => sweepE rs c) c).length = c.length := by
  induction ns generalizing c with
  | nil => rfl
  | cons g gs ih => rw [List.foldl_cons, ih]; exact foldStep_len _ _ _
theorem offSame {D I : Addr} {o o' : Obj} {l : Led} (h : ∀ p ∈ ([] ++ (D, o) :: l : Led), @Ne Nat p.1 I) : ∀ p ∈ ((D, o') :: l : Led), @Ne Nat p.1 I := by
  intro p hp
  rcases List.mem_cons.mp hp with rfl | hp
  · exact h (D, o) (.head _)
  · exact h p (.tail _ hp)
theorem stepE_no {rs : List Row} {bs : List Bool} {n : Nat} (h : ((doneOf rs n).any fun p => bs.getD p false) = false) : stepE rs bs n = bs := by
  unfold stepE
  split
  · rfl
  · rw [h]; rfl
theorem stepE_yes {rs : List Row} {bs : List Bool} {n : Nat} {r : Row} (hr : rs[n]? = some r) (h : ((doneOf rs n).any fun p => bs.getD p false) = true) : stepE rs bs n = r.goals.foldl (fun c g => c.set g true) bs := by
  unfold stepE
  rw [hr]
  simp only [h, if_true]
theorem offUpd {P : Addr → Prop} {D : Addr} {o o' : Obj} {a b : Led} (h : ∀ p ∈ (a ++ (D, o) :: b : Led), P p.1) : ∀ p ∈ (a ++ (D, o') :: b : Led), P p.1 := by
  intro p hp
  rcases List.mem_append.mp hp with hp | hp
  · exact h p (List.mem_append.mpr (.inl hp))
  · rcases List.mem_cons.mp hp with rfl | hp
    · exact h (D, o) (List.mem_append.mpr (.inr (.head _)))
    · exact h p (List.mem_append.mpr (.inr (.tail _ hp)))
theorem come0 {many : Nat} (h : 2 ≤ many) : LSm.BoolsAre (Value.bool true :: (List.replicate ((many : Int) - 1).toNat [Value.bool false]).flatten) (true :: List.replicate (many - 1) false) := by
  have e : ((many : Int) - 1).toNat = many - 1 := by omega
  rw [e]
  have h1 := kbo_rep (LSm.BoolsAre.cons false LSm.BoolsAre.nil) (many - 1)
  rw [List.flatten_replicate_singleton (a := false)] at h1
  exact .cons true h1
theorem words_lawent_1 : True := by
  k_with "k_all" => first | exact offB0 (by assumption) | exact offAll0 (by assumption) | exact offAll1 (by assumption) | exact offAll2 (by assumption) | exact offB1 (by assumption) | exact offB2 (by assumption)
  trivial
theorem words_lawent_2 : True := by
  k_with "eval ListComp" => (k_here; lct_look; k_dflt (refine LCt.ListComp_T (F₀ := by k_asm) (by with_unfolding_all rfl) (by decide) (by rfl) (by decide) (by rfl) ?_); walk_say "MINE")
  k_with "binaryOp Add ref ref" => (k_here; (with_reducible show wpAny _ _ (binaryOp Operator.Add (Value.ref _) (Value.ref _)) _ _ _); k_dflt (refine' kmk_add_lit ?F ?N ?a ?b rfl ?_ ?z; (case F => k_asm); (case N => k_asm); (case a => (refine' isListN ?n ?m; (case n => k_asm); (case m => k_mem))); (case b => (refine' isListN ?n ?m; (case n => k_asm); (case m => k_mem))); (case z => (rw [sizeLine_eq]; (simp only [List.size_toArray, List.length_cons, List.length_nil, List.length_append] at *); omega))); intro D' h' F' N' l1; (try dsimp only [List.cons_append, List.nil_append] at N'); (try k_lt l1))
  k_with "binaryOp Mult ref int" => (k_here; (with_reducible show wpAny _ _ (binaryOp Operator.Mult (Value.ref _) (Value.int _ _)) _ _ _); k_dflt (refine' kbo_mul ?F ?N ?l (LSm.BoolsAre.cons false LSm.BoolsAre.nil) ?lo ?hi ?z ?_; (case F => k_asm); (case N => k_asm); (case l => (refine' isListN ?n ?m; (case n => k_asm); (case m => k_mem))); (case lo => omega); (case hi => omega); (case z => (simp only [List.length_cons, List.length_nil]; omega))); intro D' h' F' N' l1 i1 n1 s1 e1 e2 e3 e4; (try k_lt l1))
  trivial
theorem lawEntC (w : World) (mean : ExcName → Option Value) (mg mb : Str → Option Value)
  (dp un : Nat) (gd : Option (List Code)) (cn : Str) (cs : Scope) (a : Addr) (ccd : Value) (cl : List (Str × Addr)) (outer : List Env) (A₀ : Around) (base h₀ : Heap) (L : Addr) (m : Str → Option Value) (s : Shared) (Q E : Value → Shared → Prop)
  (B : Below A₀ base outer h₀) (F : Fr h₀ L s.heap m) (X : (kmk.heap_1 w.params).In h₀)
  (rules : Addr) (many : Nat) (tn : Tok) (rs : List Row) (led sub : Led)
  (N : News h₀ L s.heap led) (hsub : ∀ p ∈ sub, p ∈ led) (hR : RowsAt sub rules rs) (hok : ∀ r ∈ rs, RowOk many r) (hm2 : 2 ≤ many) (hm4 : many ≤ 4)
  (T : Top vw (looseW vw loose) mean mg mb h₀) (hk : cs.kind = .function)
  (hd1 : dp + 300 < recursionLimit) (hu1 : un + 2000 < cLine)
  (hret : ∀ (D : Addr) (vs : List Value) (k : Nat) (h' : Heap) (tk' : Nat), LSm.BoolsAre vs (lawEnt rs many) → Fr h₀ L h' m → News h₀ L h' ((D, listOf vs.toArray k) :: led) → Q (.ref D) { s with heap := h', toks := tk' }) :
  wpAny (model PySem.Challenge.rw_qd0068_01.row.prog w) (ktrTop dp un gd cn cs L a ccd cl outer) (call (.ref 751) [.ref rules, .int (many : Int) tn]) Q E s := by
  revert X; k_fill; intro X
  replace hR := hR.mono hsub
  clear hsub sub
  have fX9 : FoldX := ⟨⟩
  have hM9 : HoldMark := ⟨⟩
  have hR' := hR
  first | (refine' ex4 (hR') ?_; intro _ _ _ _ _ ) | (refine' ex3 (hR') ?_; intro _ _ _ h9e; walk_at "sp 2") | (refine' ex2 (hR') ?_; intro _ _ h9e; walk_at "sp 3") | (refine' ex1 (hR') ?_; intro _ h9e; walk_at "sp 4") | (refine' and4 (hR') ?_; intro _ _ _ h9e; walk_at "sp 2") | (refine' and3 (hR') ?_; intro _ _ h9e; walk_at "sp 3") | (refine' and2 (hR') ?_; intro _ h9e; walk_at "sp 4") | (obtain ⟨_, _, _, _, _⟩ := hR')
  rename_i rvs rk hm h2 hvl0
  try (clear hR')
  have hsz : rvs.toArray.size = rs.length := by rw [List.size_toArray, h2.length]
  have hrl : rs.length < 100 := by rw [← h2.length]; exact hvl0
  refine wpAny_call ?_
  k_dflt walk_at "my enterC"
  rename_i o' d1'
  have l1' := l1
  clear l1
  refine wpAny_execs_cons ?_
  refine wcutF F' (fun M0 f s' => f = .next ∧ ∃ (D : Addr) (vs : List Value) (k : Nat) (o2 : Obj) (h'' : Heap) (tk : Nat), s' = { s with heap := h'', toks := tk } ∧ o2.data = .cell (some (.ref D)) ∧ LSm.BoolsAre vs (true :: List.replicate (many - 1) false) ∧ @LT.lt Nat _ (L' + 1) D ∧ (∀ p ∈ led, @LT.lt Nat _ p.1 D) ∧ Fr g' L' h'' M0 ∧
    News g' L' h'' ((D, listOf vs.toArray k) :: (L' + 1, o2) :: led)) ?_ ?_
  · clear hret
    (try (with_reducible show wpAny _ _ _ _ _ _))
    (try k_fold)
    k_steps
    refine' ⟨by trivial, _, _, _, _, _, _, rfl, ‹_ = Data.cell _›, ?b, ?D, ?l, ?F, ?N⟩
    (case F => k_asm)
    (case N => (refine newsSub (by assumption) (List.forall_mem_cons.mpr ⟨by k_mem, List.forall_mem_cons.mpr ⟨by k_mem, ?_⟩⟩); walk_at "my sub"))
    (case b => exact come0 hm2)
    (case D => omega)
    (case l => exact fun p hp => Nat.lt_trans (l1' p hp) (by omega))
  · skip
    intro f s' q9x280
    first | (refine' ex1 (q9x280) ?_; intro _ _ ) | (refine' and2 (q9x280) ?_; intro _ _ ) | (obtain ⟨_, _⟩ := q9x280)
    rename_i e9x281 r9x282
    try (clear q9x280)
    subst e9x281
    first | (refine' ex6 (r9x282) ?_; intro _ _ _ _ _ _ h9e; walk_at "sp 2") | (refine' ex4 (r9x282) ?_; intro _ _ _ _ h9e; walk_at "sp 4") | (refine' ex3 (r9x282) ?_; intro _ _ _ h9e; walk_at "sp 5") | (refine' ex2 (r9x282) ?_; intro _ _ h9e; walk_at "sp 6") | (refine' ex1 (r9x282) ?_; intro _ h9e; walk_at "sp 7") | (refine' and6 (r9x282) ?_; intro _ _ _ _ _ h9e; walk_at "sp 3") | (refine' and4 (r9x282) ?_; intro _ _ _ h9e; walk_at "sp 5") | (refine' and3 (r9x282) ?_; intro _ _ h9e; walk_at "sp 6") | (refine' and2 (r9x282) ?_; intro _ h9e; walk_at "sp 7") | (obtain ⟨_, _, _, _, _, _, _, _⟩ := r9x282)
    rename_i D vs k o2 h'' tk e9x289 r9x290
    try (clear r9x282)
    subst e9x289
    first | (refine' ex4 (r9x290) ?_; intro _ _ _ _ h9e; walk_at "sp 2") | (refine' ex3 (r9x290) ?_; intro _ _ _ h9e; walk_at "sp 3") | (refine' ex2 (r9x290) ?_; intro _ _ h9e; walk_at "sp 4") | (refine' ex1 (r9x290) ?_; intro _ h9e; walk_at "sp 5") | (refine' and6 (r9x290) ?_; intro _ _ _ _ _ _ ) | (refine' and4 (r9x290) ?_; intro _ _ _ h9e; walk_at "sp 3") | (refine' and3 (r9x290) ?_; intro _ _ h9e; walk_at "sp 4") | (refine' and2 (r9x290) ?_; intro _ h9e; walk_at "sp 5") | (obtain ⟨_, _, _, _, _, _⟩ := r9x290)
    rename_i d2 hb hD hDl F'' N''
    try (clear r9x290)
    clear N' F' d1'
    dsimp only
    refine wpAny_execs_cons ?_
    refine forRange (n := many) (nx₀ := [] ++ (D, listOf vs.toArray k) :: (L' + 1, o2) :: led) F'' (boolsJ [Str.ofString "turn", Str.ofString "number", Str.ofString "goal"] D k [] ((L' + 1, o2) :: led) (fun i => (List.range i).foldl (fun c _ => sweepE rs c) (true :: List.replicate (many - 1) false)) _)
      (by rfl) (by rfl) (fun _ => rfl) (by passes_own) ?hi (by rfl) (by omega) (boolsJ0 hb) ?turn ?done
    (case hi =>
      clear hret
      (try (with_reducible show wpAny _ _ _ _ _ _))
      (try k_fold)
      k_steps
      refine' ⟨_, _, _, _, _, _, rfl, rfl, ?R, ?F, ?N⟩
      (case R => assumption)
      (case F => k_asm)
      (case N => (refine newsSub (by assumption) ?_; walk_at "my sub")))
    (case turn =>
      clear hret
      intro i tv m₁ nx h tk I oI hi ho hJ9 F1 N1
      (with_reducible show wpAny _ _ _ _ _ _)
      k_fold
      first | (refine' ex3 (hJ9) ?_; intro _ _ _ _ ) | (refine' ex2 (hJ9) ?_; intro _ _ h9e; walk_at "sp 2") | (refine' ex1 (hJ9) ?_; intro _ h9e; walk_at "sp 3") | (refine' and4 (hJ9) ?_; intro _ _ _ _ ) | (refine' and3 (hJ9) ?_; intro _ _ h9e; walk_at "sp 2") | (refine' and2 (hJ9) ?_; intro _ h9e; walk_at "sp 3") | (obtain ⟨_, _, _, _⟩ := hJ9)
      rename_i u vs e9x299 r9x300
      try (clear hJ9)
      subst e9x299
      obtain ⟨rfl, hb⟩ := r9x300
      clear N'' F''
      dsimp only [List.nil_append] at N1
      refine wpAny_execs_cons ?_
      refine forRange (n := rs.length) (nx₀ := [(I, oI)] ++ (D, listOf vs.toArray k) :: (L' + 1, o2) :: led) F1 (boolsJ [Str.ofString "turn", Str.ofString "number", Str.ofString "goal"] D k [(I, oI)] ((L' + 1, o2) :: led) (fun j => (List.range j).foldl (stepE rs) ((List.range i).foldl (fun c _ => sweepE rs c) (true :: List.replicate (many - 1) false))) _)
        (by rfl) (by rfl) (fun _ => rfl) (by passes_own) ?hi2 (by rfl) (by omega) (boolsJ0 hb) ?turn2 ?done2
      (case hi2 =>
        (try (with_reducible show wpAny _ _ _ _ _ _))
        (try k_fold)
        k_steps
        refine' ⟨_, _, _, _, _, _, rfl, rfl, ?R, ?F, ?N⟩
        (case R => assumption)
        (case F => k_asm)
        (case N => (refine newsSub (by assumption) ?_; walk_at "my sub")))
      (case turn2 =>
        intro j tj m₂ nx h2' tk2 I2 o3 hj2 ho2 hJ9 F2 N2
        (with_reducible show wpAny _ _ _ _ _ _)
        k_fold
        first | (refine' ex3 (hJ9) ?_; intro _ _ _ _ ) | (refine' ex2 (hJ9) ?_; intro _ _ h9e; walk_at "sp 2") | (refine' ex1 (hJ9) ?_; intro _ h9e; walk_at "sp 3") | (refine' and4 (hJ9) ?_; intro _ _ _ _ ) | (refine' and3 (hJ9) ?_; intro _ _ h9e; walk_at "sp 2") | (refine' and2 (hJ9) ?_; intro _ h9e; walk_at "sp 3") | (obtain ⟨_, _, _, _⟩ := hJ9)
        rename_i u2 vs2 e9x303 r9x304
        try (clear hJ9)
        subst e9x303
        obtain ⟨rfl, hb2⟩ := r9x304
        dsimp only [List.cons_append, List.nil_append] at N2
        clear N1 F1
        obtain ⟨bs, ebs⟩ : ∃ bs, bs = (List.range j).foldl (stepE rs) ((List.range i).foldl (fun c _ => sweepE rs c) (true :: List.replicate (many - 1) false)) := ⟨_, rfl⟩
        have hbl : bs.length = many := by rw [ebs, foldStep_len, foldSweep_len]; simp only [List.length_cons, List.length_replicate]; omega
        dsimp only at hb2
        rw [← ebs] at hb2
        obtain ⟨v, hv⟩ : ∃ v, rvs[j]? = some v := ⟨rvs[j]'(by rw [h2.length]; exact hj2), by simp⟩
        first | (refine' ex8 (h2.get hv) ?_; intro _ _ _ _ _ _ _ _ h9e; walk_at "sp 3") | (refine' ex6 (h2.get hv) ?_; intro _ _ _ _ _ _ h9e; walk_at "sp 5") | (refine' ex4 (h2.get hv) ?_; intro _ _ _ _ h9e; walk_at "sp 7") | (refine' ex3 (h2.get hv) ?_; intro _ _ _ h9e; walk_at "sp 8") | (refine' ex2 (h2.get hv) ?_; intro _ _ h9e; walk_at "sp 9") | (refine' ex1 (h2.get hv) ?_; intro _ h9e; walk_at "sp 10") | (refine' and6 (h2.get hv) ?_; intro _ _ _ _ _ h9e; walk_at "sp 6") | (refine' and4 (h2.get hv) ?_; intro _ _ _ h9e; walk_at "sp 8") | (refine' and3 (h2.get hv) ?_; intro _ _ h9e; walk_at "sp 9") | (refine' and2 (h2.get hv) ?_; intro _ h9e; walk_at "sp 10") | (obtain ⟨_, _, _, _, _, _, _, _, _, _, _⟩ := h2.get hv)
        rename_i r hr ar kr t pl pv gl st e9x314 r9x315
        subst e9x314
        first | (refine' ex2 (r9x315) ?_; intro _ _ _ ) | (refine' ex1 (r9x315) ?_; intro _ h9e; walk_at "sp 2") | (refine' and3 (r9x315) ?_; intro _ _ _ ) | (refine' and2 (r9x315) ?_; intro _ h9e; walk_at "sp 2") | (obtain ⟨_, _, _⟩ := r9x315)
        rename_i hm1 n9x317 n9x318
        try (clear r9x315)
        first | (refine' ex4 (n9x317) ?_; intro _ _ _ _ _ ) | (refine' ex3 (n9x317) ?_; intro _ _ _ h9e; walk_at "sp 2") | (refine' ex2 (n9x317) ?_; intro _ _ h9e; walk_at "sp 3") | (refine' ex1 (n9x317) ?_; intro _ h9e; walk_at "sp 4") | (refine' and4 (n9x317) ?_; intro _ _ _ h9e; walk_at "sp 2") | (refine' and3 (n9x317) ?_; intro _ _ h9e; walk_at "sp 3") | (refine' and2 (n9x317) ?_; intro _ h9e; walk_at "sp 4") | (obtain ⟨_, _, _, _, _⟩ := n9x317)
        rename_i pvs kp hmp hip hplen
        try (clear n9x317)
        first | (refine' ex4 (n9x318) ?_; intro _ _ _ _ _ ) | (refine' ex3 (n9x318) ?_; intro _ _ _ h9e; walk_at "sp 2") | (refine' ex2 (n9x318) ?_; intro _ _ h9e; walk_at "sp 3") | (refine' ex1 (n9x318) ?_; intro _ h9e; walk_at "sp 4") | (refine' and4 (n9x318) ?_; intro _ _ _ h9e; walk_at "sp 2") | (refine' and3 (n9x318) ?_; intro _ _ h9e; walk_at "sp 3") | (refine' and2 (n9x318) ?_; intro _ h9e; walk_at "sp 4") | (obtain ⟨_, _, _, _, _⟩ := n9x318)
        rename_i gvs kg hmg hig hgl
        try (clear n9x318)
        have hpl := doneOf_lt (fun r hr => (hok r hr).places) j
        have hpn : pvs.length = r.places.length := by rw [hip.length]; exact List.length_map ..
        have hdl := doneOf_len hr
        have hgI2 : @Ne Nat gl I2 := ho2 (gl, listOf gvs.toArray kg) (.tail _ (.tail _ (.tail _ hmg)))
        have hgI : @Ne Nat gl I := ho (gl, listOf gvs.toArray kg) (.tail _ (.tail _ hmg))
        have hgD : @LT.lt Nat _ gl D := hDl _ hmg
        have hgL : @LT.lt Nat _ gl L' := l1' _ hmg
        have hDI2 : @Ne Nat D I2 := ho2 (D, listOf vs2.toArray k) (.tail _ (.head _))
        have hDI : @Ne Nat D I := ho (D, listOf vs.toArray k) (.head _)
        have hII2 : @Ne Nat I I2 := ho2 (I, oI) (.head _)
        (try (with_reducible show wpAny _ _ _ _ _ _))
        (try k_fold)
        k_steps
        have hn9 : vs9.length = (doneOf rs j).length := by rw [i9.length]; exact List.length_map ..
        have hs9 : vs9.toArray.size = (doneOf rs j).length := by rw [List.size_toArray, hn9]
        refine LCt.CompSrcT.ledger (by rfl) (by k_asm) (by k_asm) (by k_mem) (by rw [List.size_toArray, sizeLine_eq]; omega) ?_
        intro g2
        refine compTr (fun i ys => IntsAre ys (natI (((doneOf rs j).take i).filter fun p => bs.getD p false))) .nil ?_ ?_
        · intro i3 ys hi3 hI v I3 oI3 C oC D3 m₂ h tk E' hv hC hx F3 N3 off3 ne3
          have hv' : vs9[i3]? = some v := by simpa using hv
          first | (refine' ex3 (ints_get i9 hv') ?_; intro _ _ _ _ ) | (refine' ex2 (ints_get i9 hv') ?_; intro _ _ h9e; walk_at "sp 2") | (refine' ex1 (ints_get i9 hv') ?_; intro _ h9e; walk_at "sp 3") | (refine' and4 (ints_get i9 hv') ?_; intro _ _ _ _ ) | (refine' and3 (ints_get i9 hv') ?_; intro _ _ h9e; walk_at "sp 2") | (refine' and2 (ints_get i9 hv') ?_; intro _ h9e; walk_at "sp 3") | (obtain ⟨_, _, _, _⟩ := ints_get i9 hv')
          rename_i p tp hp e9x332
          subst e9x332
          have hpm := hpl p (List.mem_of_getElem? hp)
          (try (with_reducible show wpAny _ _ _ _ _ _))
          (try k_fold)
          k_steps
          all_goals (
            rename_i q9
            refine' LCg.CompEnd.intro ?F ?N _ ?sub ?off ?S ⟨rfl, ?I⟩
            (case F => k_asm)
            (case N => k_asm)
            (case sub => exact fun _ h => h)
            (case off => exact off3)
            (case S => exact Or.inr ⟨_, by k_mem, rfl, _, rfl⟩)
            (case I => (have q8 := done_filter (t := tp) (f := fun p => bs.getD p false) hp hI; first | exact q8.1 (by simpa using q9) | exact q8.2 (by simpa using q9))))
        · intro ys hI
          rw [hs9] at hI
          try dsimp only at hI
          rw [List.take_length] at hI
          unfold LCg.FinE
          intro D3 h3 tk3 F3 N3 o3'
          try dsimp only
          (try (with_reducible show wpAny _ _ _ _ _ _))
          (try k_fold)
          k_steps
          · rename_i q9
            refine' CutI.mk ⟨_, _, _, _, rfl, ?F, ?N, ho2, _, vs2, ?m, rfl, ?J⟩
            (case F => k_asm)
            (case m => (refine' ovr_set ?hx _ _ _; (case hx => rfl)))
            (case N => (refine newsSub (by assumption) ?_; walk_at "my sub"))
            (case J => (dsimp only; rw [List.range_succ, List.foldl_append, ← ebs, List.foldl_cons, List.foldl_nil, stepE_no (filt_nil (by simpa using q9))]; exact hb2))
          · rename_i q9
            refine ⟨?_⟩
            refine' forMem (stat := led) (var₀ := [(I2, o3), (I, oI)] ++ (D, listOf vs2.toArray k) :: [(L' + 1, o2)]) hmg ?F ?N (boolsJ [Str.ofString "turn", Str.ofString "number", Str.ofString "goal"] D k [(I2, o3), (I, oI)] [(L' + 1, o2)] (fun t => (r.goals.take t).foldl (fun c g => c.set g true) bs) _)
              ?kx ?kp (fun _ => rfl) ?kE ?hi3 ?hh ?off (boolsJ0 hb2) ?turn3 ?done3
            (case F => k_asm)
            (case N => (refine newsSub (by assumption) ?_; walk_at "my sub"))
            (case kx => rfl)
            (case kp => rfl)
            (case hh => rfl)
            (case kE => passes_own)
            (case off => (simp only [List.cons_append, List.nil_append, List.forall_mem_cons]; exact ⟨fun e => hgI2 e.symm, fun e => hgI e.symm, fun e => absurd (e ▸ hgD) (Nat.lt_irrefl _), by omega, fun _ h => nomatch h⟩))
            (case hi3 =>
              (try (with_reducible show wpAny _ _ _ _ _ _))
              (try k_fold)
              k_steps
              refine' ⟨_, _, rfl, rfl, ?F, ?N⟩
              (case F => k_asm)
              (case N => (refine newsSub (by assumption) ?_; walk_at "my sub")))
            (case turn3 =>
              intro t3 v m₃ nx h4 tk4 I3 o4 hv3 hI3 ho3 hst3 hJ9 F4 N4
              (with_reducible show wpAny _ _ _ _ _ _)
              k_fold
              first | (refine' ex3 (hJ9) ?_; intro _ _ _ _ ) | (refine' ex2 (hJ9) ?_; intro _ _ h9e; walk_at "sp 2") | (refine' ex1 (hJ9) ?_; intro _ h9e; walk_at "sp 3") | (refine' and4 (hJ9) ?_; intro _ _ _ _ ) | (refine' and3 (hJ9) ?_; intro _ _ h9e; walk_at "sp 2") | (refine' and2 (hJ9) ?_; intro _ h9e; walk_at "sp 3") | (obtain ⟨_, _, _, _⟩ := hJ9)
              rename_i u3 vs3 e9x335 r9x336
              try (clear hJ9)
              subst e9x335
              obtain ⟨rfl, hb3⟩ := r9x336
              dsimp only [List.cons_append, List.nil_append] at N4
              first | (refine' ex3 (ints_get hig hv3) ?_; intro _ _ _ _ ) | (refine' ex2 (ints_get hig hv3) ?_; intro _ _ h9e; walk_at "sp 2") | (refine' ex1 (ints_get hig hv3) ?_; intro _ h9e; walk_at "sp 3") | (refine' and4 (ints_get hig hv3) ?_; intro _ _ _ _ ) | (refine' and3 (ints_get hig hv3) ?_; intro _ _ h9e; walk_at "sp 2") | (refine' and2 (ints_get hig hv3) ?_; intro _ h9e; walk_at "sp 3") | (obtain ⟨_, _, _, _⟩ := ints_get hig hv3)
              rename_i q tq hq e9x340
              subst e9x340
              have hqm := (hok r (List.mem_of_getElem? hr)).goals q (List.mem_of_getElem? hq)
              obtain ⟨bs3, ebs3⟩ : ∃ bs3, bs3 = (r.goals.take t3).foldl (fun c g => c.set g true) bs := ⟨_, rfl⟩
              have hbl3 : bs3.length = many := by rw [ebs3, setAll_len, hbl]
              dsimp only at hb3
              rw [← ebs3] at hb3
              have hDI3 : @Ne Nat D I3 := (ho3 (D, listOf vs3.toArray k) (.tail _ (.tail _ (.head _)))).1
              (try (with_reducible show wpAny _ _ _ _ _ _))
              (try k_fold)
              k_steps
              refine' CutI.mk ⟨_, _, _, [(I2, o3), (I, oI)] ++ (D, listOf (vs3.set q (.bool true)).toArray k) :: [(L' + 1, o2)], rfl, ?F, ?N, ?o, _, _, ?m, rfl, ?J⟩
              (case F => k_asm)
              (case m => (refine' ovr_set ?hx _ _ _; (case hx => rfl)))
              (case N => (refine newsSub (by assumption) ?_; walk_at "my sub"))
              (case o => exact offUpd (P := fun x => @Ne Nat x I3 ∧ @Ne Nat x gl) ho3)
              (case J => (have hb5 := kbo_setB (b := true) hb3 q; dsimp only; rw [List.take_add_one, hq]; simp only [Option.toList_some, List.foldl_append, List.foldl_cons, List.foldl_nil, ← ebs3]; exact hb5)))
            (case done3 =>
              intro m₃ nx h4 tk4 q9x341
              first | (refine' ex3 (q9x341) ?_; intro _ _ _ _ ) | (refine' ex2 (q9x341) ?_; intro _ _ h9e; walk_at "sp 2") | (refine' ex1 (q9x341) ?_; intro _ h9e; walk_at "sp 3") | (refine' and4 (q9x341) ?_; intro _ _ _ _ ) | (refine' and3 (q9x341) ?_; intro _ _ h9e; walk_at "sp 2") | (refine' and2 (q9x341) ?_; intro _ h9e; walk_at "sp 3") | (obtain ⟨_, _, _, _⟩ := q9x341)
              rename_i u3 vs3 e9x344 r9x345
              try (clear q9x341)
              subst e9x344
              obtain ⟨rfl, hb3⟩ := r9x345
              intro F4 N4 off4
              dsimp only [List.cons_append, List.nil_append] at N4
              have hgl2 : gvs.length = r.goals.length := by rw [hig.length]; exact List.length_map ..
              dsimp only at hb3
              rw [hgl2, List.take_length] at hb3
              (try (with_reducible show wpAny _ _ _ _ _ _))
              (try k_fold)
              k_steps
              refine' CutI.mk ⟨_, _, _, _, rfl, F4, ?N, ?o, _, vs3, ?m, rfl, ?J⟩
              (case m => (rw [ovr_ovr (by rfl)]))
              (case N => (refine newsSub (by assumption) ?_; walk_at "my sub"))
              (case o => exact offUpd (P := fun x => @Ne Nat x I2) ho2)
              (case J => (dsimp only; rw [List.range_succ, List.foldl_append, ← ebs, List.foldl_cons, List.foldl_nil, stepE_yes hr (filt_some (by simpa using q9))]; exact hb3))))
      (case done2 =>
        intro m₂ nx h2' tk2 q9x346
        first | (refine' ex3 (q9x346) ?_; intro _ _ _ _ ) | (refine' ex2 (q9x346) ?_; intro _ _ h9e; walk_at "sp 2") | (refine' ex1 (q9x346) ?_; intro _ h9e; walk_at "sp 3") | (refine' and4 (q9x346) ?_; intro _ _ _ _ ) | (refine' and3 (q9x346) ?_; intro _ _ h9e; walk_at "sp 2") | (refine' and2 (q9x346) ?_; intro _ h9e; walk_at "sp 3") | (obtain ⟨_, _, _, _⟩ := q9x346)
        rename_i u2 vs2 e9x349 r9x350
        try (clear q9x346)
        subst e9x349
        obtain ⟨rfl, hb2⟩ := r9x350
        intro F2 N2
        dsimp only [List.cons_append, List.nil_append] at N2
        (try (with_reducible show wpAny _ _ _ _ _ _))
        (try k_fold)
        k_steps
        refine' CutI.mk ⟨_, _, _, _, rfl, F2, ?N, ?o, u2, vs2, ovr_ovr (by rfl) _ _ _ _, rfl, ?J⟩
        (case N => (refine newsSub N2 ?_; walk_at "my sub"))
        (case o => exact offSame ho)
        (case J => (dsimp only; rw [List.range_succ, List.foldl_append]; exact hb2))))
    (case done =>
      intro m₁ nx h tk q9x351
      first | (refine' ex3 (q9x351) ?_; intro _ _ _ _ ) | (refine' ex2 (q9x351) ?_; intro _ _ h9e; walk_at "sp 2") | (refine' ex1 (q9x351) ?_; intro _ h9e; walk_at "sp 3") | (refine' and4 (q9x351) ?_; intro _ _ _ _ ) | (refine' and3 (q9x351) ?_; intro _ _ h9e; walk_at "sp 2") | (refine' and2 (q9x351) ?_; intro _ h9e; walk_at "sp 3") | (obtain ⟨_, _, _, _⟩ := q9x351)
      rename_i u vs e9x354 r9x355
      try (clear q9x351)
      subst e9x354
      obtain ⟨rfl, hb⟩ := r9x355
      intro F1 N1
      dsimp only [List.nil_append] at N1
      (try (with_reducible show wpAny _ _ _ _ _ _))
      (try k_fold)
      k_steps
      refine' hret _ _ _ _ _ hb ?F ?N
      (case F => k_asm)
      (case N => (refine newsSub (by assumption) (List.forall_mem_cons.mpr ⟨by k_mem, ?_⟩); walk_at "my sub")))

section
variable {prog : Program} {w : World} {A : Around} {E : Value → Shared → Prop} {s : Shared} {env : Env} {h₀ : Heap} {x : Str} {px : Pos} {body : List Stmt} {Q : Flow → Shared → Prop}
theorem forRangeX {pos : Pos} {iter : Expr} {n : Nat} {m₀ : Str → Option Value} {nx₀ : List (Addr × Obj)} (F : Fr h₀ env.locals s.heap m₀) (J : Nat → (Str → Option Value) → List (Addr × Obj) → Prop)
    (hs : ∀ x, foldedSetIterable iter env x = pure x) (hE : PassesOwn (model prog w) A env E)
    (hi : wpAny (model prog w) A (eval iter env) (fun v s' => CutI (∃ r t u tw h tk, v = .ref r ∧ s' = { s with heap := h, toks := tk } ∧ IsRange h r 0 (n : Int) 1 t u tw ∧ Fr h₀ env.locals h m₀ ∧ News h₀ env.locals h nx₀)) E s)
    (hh : A.handled = none) (hn : n < 2 ^ 30) (hj : J 0 m₀ nx₀)
    (turn : ∀ (i : Nat) tv m₁ nx h tk I oI, i < n → (∀ p ∈ nx, @Ne Nat p.1 I) → J i m₁ nx → Fr h₀ env.locals h m₁ → News h₀ env.locals h ((I, oI) :: nx) →
      wpAny (model prog w) A (assign (.Name x px) env (.int (i : Int) tv)) (fun _ s₃ => wpAny (model prog w) A (execs body env) (ItPostR h₀ env.locals I oI (J (i + 1)) { s with heap := h, toks := tk } Q) E s₃) E { s with heap := h, toks := tk })
    (done : ∀ m₁ nx h tk, J n m₁ nx → Fr h₀ env.locals h m₁ → News h₀ env.locals h nx → Q .next { s with heap := h, toks := tk }) :
    wpAny (model prog w) A (exec (.For (.Name x px) iter body [] pos) env) Q E s := by
  refine For_invX h₀ (wpAny_mono hi (fun v s' hv => ?_) fun _ _ e => e) hs hE
  first | (refine' ex6 (hv.out) ?_; intro _ _ _ _ _ _ h9e; walk_at "sp 2") | (refine' ex4 (hv.out) ?_; intro _ _ _ _ h9e; walk_at "sp 4") | (refine' ex3 (hv.out) ?_; intro _ _ _ h9e; walk_at "sp 5") | (refine' ex2 (hv.out) ?_; intro _ _ h9e; walk_at "sp 6") | (refine' ex1 (hv.out) ?_; intro _ h9e; walk_at "sp 7") | (refine' and6 (hv.out) ?_; intro _ _ _ _ _ h9e; walk_at "sp 3") | (refine' and4 (hv.out) ?_; intro _ _ _ h9e; walk_at "sp 5") | (refine' and3 (hv.out) ?_; intro _ _ h9e; walk_at "sp 6") | (refine' and2 (hv.out) ?_; intro _ h9e; walk_at "sp 7") | (obtain ⟨_, _, _, _, _, _, _, _⟩ := hv.out)
  rename_i r t u tw h tk e9x362 r9x363
  subst e9x362
  first | (refine' ex1 (r9x363) ?_; intro _ _ ) | (refine' and2 (r9x363) ?_; intro _ _ ) | (obtain ⟨_, _⟩ := r9x363)
  rename_i e9x364 r9x365
  try (clear r9x363)
  subst e9x364
  obtain ⟨hr, F', N'⟩ := r9x365
  refine iterRX (n := n) J hh F' N' hr ?_ ?_ hj (fun i tv m₁ nx h tk I oI hi ho hJ F N => ?_) done
  · exact small_one (by omega) (by omega) (by omega) (by omega)
  · rw [rangeSize_one]; split <;> omega
  · rw [Int.zero_add]
    exact turn i tv m₁ nx h tk I oI hi ho hJ F N
end

/-- contract of a call that changes nothing that stood: it hands back v; what it made (nw) lies above all that stood -/
def Con (w : World) (f : Addr) (args : List Value) (D U : Nat) (sub : Led) (Out : Value → Led → Led → Prop) : Prop :=
  ∀ (mean : ExcName → Option Value) (mg mb : Str → Option Value) (dp un : Nat) (gd : Option (List Code)) (cn : Str) (cs : Scope) (a : Addr) (ccd : Value) (cl : List (Str × Addr)) (outer : List Env) (A₀ : Around) (base h₀ : Heap) (L : Addr) (m : Str → Option Value) (s : Shared) (Q E : Value → Shared → Prop) (led : Led),
    Below A₀ base outer h₀ → Fr h₀ L s.heap m → (kmk.heap_1 w.params).In h₀ → News h₀ L s.heap led → (∀ p ∈ sub, p ∈ led) → Top vw (looseW vw loose) mean mg mb h₀ → cs.kind = .function → dp + D < recursionLimit → un + U < cLine →
    (∀ v nw h' tk', Out v nw (nw ++ led) → (∀ q ∈ led, ∀ p ∈ nw, @Ne Nat q.1 p.1) → Fr h₀ L h' m → News h₀ L h' (nw ++ led) → Q v { s with heap := h', toks := tk' }) →
    wpAny (model PySem.Challenge.rw_qd0068_01.row.prog w) (ktrTop dp un gd cn cs L a ccd cl outer) (call (.ref f) args) Q E s
theorem Con.use {w : World} {f : Addr} {args : List Value} {D U : Nat} {sub : Led} {Out : Value → Led → Led → Prop} (C : Con w f args D U sub Out)
    {mean : ExcName → Option Value} {mg mb : Str → Option Value} {dp un : Nat} {gd : Option (List Code)} {cn : Str} {cs : Scope} {a : Addr} {ccd : Value} {cl : List (Str × Addr)} {outer : List Env} {A₀ : Around} {base h₀ : Heap} {L : Addr} {m : Str → Option Value} {s : Shared} {Q E : Value → Shared → Prop} {led : Led}
    (B : Below A₀ base outer h₀) (F : Fr h₀ L s.heap m) (X : (kmk.heap_1 w.params).In h₀) (N : News h₀ L s.heap led) (hsub : ∀ p ∈ sub, p ∈ led) (T : Top vw (looseW vw loose) mean mg mb h₀) (hk : cs.kind = .function) (hd : dp + D < recursionLimit) (hu : un + U < cLine)
    (hret : ∀ v nw h' tk', Out v nw (nw ++ led) → (∀ q ∈ led, ∀ p ∈ nw, @Ne Nat q.1 p.1) → Fr h₀ L h' m → News h₀ L h' (nw ++ led) → Q v { s with heap := h', toks := tk' }) :
    wpAny (model PySem.Challenge.rw_qd0068_01.row.prog w) (ktrTop dp un gd cn cs L a ccd cl outer) (call (.ref f) args) Q E s :=
  C _ _ _ _ _ _ _ _ _ _ _ _ _ _ _ _ _ _ _ _ _ B F X N hsub T hk hd hu hret
theorem Con.useL {w : World} {f : Addr} {args : List Value} {D U : Nat} {led : Led} {Out : Value → Led → Led → Prop}
    {mean : ExcName → Option Value} {mg mb : Str → Option Value} {dp un : Nat} {gd : Option (List Code)} {cn : Str} {cs : Scope} {a : Addr} {ccd : Value} {cl : List (Str × Addr)} {outer : List Env} {A₀ : Around} {base h₀ : Heap} {L : Addr} {m : Str → Option Value} {s : Shared} {Q E : Value → Shared → Prop}
    (B : Below A₀ base outer h₀) (F : Fr h₀ L s.heap m) (X : (kmk.heap_1 w.params).In h₀) (N : News h₀ L s.heap led) (C : Con w f args D U led Out) (T : Top vw (looseW vw loose) mean mg mb h₀) (hk : cs.kind = .function) (hd : dp + D < recursionLimit) (hu : un + U < cLine)
    (hret : ∀ v nw h' tk', Out v nw (nw ++ led) → (∀ q ∈ led, ∀ p ∈ nw, @Ne Nat q.1 p.1) → Fr h₀ L h' m → News h₀ L h' (nw ++ led) → Q v { s with heap := h', toks := tk' }) :
    wpAny (model PySem.Challenge.rw_qd0068_01.row.prog w) (ktrTop dp un gd cn cs L a ccd cl outer) (call (.ref f) args) Q E s := C.use B F X N (fun _ h => h) T hk hd hu hret
theorem Con.mono {w : World} {f : Addr} {args : List Value} {D U : Nat} {sub sub' : Led} {Out : Value → Led → Led → Prop} (C : Con w f args D U sub Out) (h : ∀ p ∈ sub, p ∈ sub') : Con w f args D U sub' Out :=
  fun _ _ _ _ _ _ _ _ _ _ _ _ _ _ _ _ _ _ _ _ _ B F X N hs => C _ _ _ _ _ _ _ _ _ _ _ _ _ _ _ _ _ _ _ _ _ B F X N fun p hp => hs p (h p hp)
theorem Con.le {w : World} {f : Addr} {args : List Value} {D U D' U' : Nat} {sub : Led} {Out : Value → Led → Led → Prop} (C : Con w f args D U sub Out) (hD : D ≤ D') (hU : U ≤ U') : Con w f args D' U' sub Out :=
  fun _ _ _ _ _ _ _ _ _ _ _ _ _ _ _ _ _ _ _ _ _ B F X N hs T hk hd hu => C _ _ _ _ _ _ _ _ _ _ _ _ _ _ _ _ _ _ _ _ _ B F X N hs T hk (Nat.lt_of_le_of_lt (Nat.add_le_add_left hD _) hd) (Nat.lt_of_le_of_lt (Nat.add_le_add_left hU _) hu)
theorem roomA {a b n c : Nat} (h : a + n < c) (hb : Nat.ble b n = true) : a + b < c := Nat.lt_of_le_of_lt (Nat.add_le_add_left (Nat.le_of_ble_eq_true hb) _) h
theorem roomC {a k b n c : Nat} (h : a + n < c) (hb : Nat.ble (k + b) n = true) : a + k + b < c := by rw [Nat.add_assoc]; exact roomA h hb
theorem letA {M : Model} {A : Around} {α : Type} {t : Sem α} {Q : α → Shared → Prop} {E : Value → Shared → Prop} {s : Shared} (h : let A1 := A; wpAny M A1 t Q E s) : wpAny M A t Q E s := h
theorem ItPostM.ret {h₀ : Heap} {L I l : Addr} {oI : Obj} {stat : Led} {J : (Str → Option Value) → Led → Prop} {s₁ s₂ : Shared} {Q : Flow → Shared → Prop} {v : Value} (h : Q (.ret v) s₂) : ItPostM h₀ L I l oI stat J s₁ Q (.ret v) s₂ := h
theorem ItPost.ret {h₀ : Heap} {L I l : Addr} {oI oL : Obj} {J : (Str → Option Value) → Led → Prop} {s₁ s₂ : Shared} {Q : Flow → Shared → Prop} {v : Value} (h : Q (.ret v) s₂) : ItPost h₀ L I l oI oL J s₁ Q (.ret v) s₂ := h
/-- an object made by a class: its dict's entries -/
def InstIs (led : Led) (x C : Addr) (es : List DictEntry) : Prop := ∃ d n sl, (x, (⟨.ref C, some d, .plain, sl⟩ : Obj)) ∈ led ∧ (d, dictOf es n) ∈ led
theorem InstIs.mono {led led' : Led} {x C : Addr} {es : List DictEntry} (hs : ∀ p ∈ led, p ∈ led') (h : InstIs led x C es) : InstIs led' x C es := by
  first | (refine' ex4 (h) ?_; intro _ _ _ _ _ ) | (refine' ex3 (h) ?_; intro _ _ _ h9e; walk_at "sp 2") | (refine' ex2 (h) ?_; intro _ _ h9e; walk_at "sp 3") | (refine' ex1 (h) ?_; intro _ h9e; walk_at "sp 4") | (refine' and4 (h) ?_; intro _ _ _ h9e; walk_at "sp 2") | (refine' and3 (h) ?_; intro _ _ h9e; walk_at "sp 3") | (refine' and2 (h) ?_; intro _ h9e; walk_at "sp 4") | (obtain ⟨_, _, _, _, _⟩ := h)
  rename_i d n sl h1 h2
  try (clear h)
  exact ⟨d, n, sl, hs _ h1, hs _ h2⟩
/-- the trees that the law's patterns are made of -/
inductive Nd
  | empty
  | never
  | chars (full : Bool)
  | cat (l r : Nd)
  | alt (l r : Nd)
  | star (b : Nd)
  | plus (b : Nd)
  | opt (b : Nd)
  | rep (b : Nd) (high : Nat)
inductive NodeAt (led : Led) : Value → Nd → Prop
  | empty {x d n sl} : (x, (⟨.ref 269, some d, .plain, sl⟩ : Obj)) ∈ led → (d, dictOf [] n) ∈ led → NodeAt led (.ref x) .empty
  | never {x d n sl} : (x, (⟨.ref 281, some d, .plain, sl⟩ : Obj)) ∈ led → (d, dictOf [] n) ∈ led → NodeAt led (.ref x) .never
  | charsE {x d n sl h t c dc nc slc hc tc sp ks} : (x, (⟨.ref 307, some d, .plain, sl⟩ : Obj)) ∈ led → (d, dictOf [⟨h, .str (Str.ofString "charset") t, .ref c⟩] n) ∈ led →
      (c, (⟨.ref 227, some dc, .plain, slc⟩ : Obj)) ∈ led → (dc, dictOf [⟨hc, .str (Str.ofString "spans") tc, .ref sp⟩] nc) ∈ led → (sp, tupO #[] ks) ∈ led → NodeAt led (.ref x) (.chars false)
  | chars {x d n sl h t c dc nc slc hc tc sp v ks} : (x, (⟨.ref 307, some d, .plain, sl⟩ : Obj)) ∈ led → (d, dictOf [⟨h, .str (Str.ofString "charset") t, .ref c⟩] n) ∈ led →
      (c, (⟨.ref 227, some dc, .plain, slc⟩ : Obj)) ∈ led → (dc, dictOf [⟨hc, .str (Str.ofString "spans") tc, .ref sp⟩] nc) ∈ led → (sp, tupO #[v] ks) ∈ led → NodeAt led (.ref x) (.chars true)
  | cat {x d n sl h t h2 t2 vl vr l r} : (x, (⟨.ref 352, some d, .plain, sl⟩ : Obj)) ∈ led → (d, dictOf [⟨h, .str (Str.ofString "left") t, vl⟩, ⟨h2, .str (Str.ofString "right") t2, vr⟩] n) ∈ led → NodeAt led vl l → NodeAt led vr r → NodeAt led (.ref x) (.cat l r)
  | alt {x d n sl h t h2 t2 vl vr l r} : (x, (⟨.ref 364, some d, .plain, sl⟩ : Obj)) ∈ led → (d, dictOf [⟨h, .str (Str.ofString "left") t, vl⟩, ⟨h2, .str (Str.ofString "right") t2, vr⟩] n) ∈ led → NodeAt led vl l → NodeAt led vr r → NodeAt led (.ref x) (.alt l r)
  | star {x d n sl h t vb b} : (x, (⟨.ref 409, some d, .plain, sl⟩ : Obj)) ∈ led → (d, dictOf [⟨h, .str (Str.ofString "body") t, vb⟩] n) ∈ led → NodeAt led vb b → NodeAt led (.ref x) (.star b)
  | plus {x d n sl h t vb b} : (x, (⟨.ref 421, some d, .plain, sl⟩ : Obj)) ∈ led → (d, dictOf [⟨h, .str (Str.ofString "body") t, vb⟩] n) ∈ led → NodeAt led vb b → NodeAt led (.ref x) (.plus b)
  | opt {x d n sl h t vb b} : (x, (⟨.ref 433, some d, .plain, sl⟩ : Obj)) ∈ led → (d, dictOf [⟨h, .str (Str.ofString "body") t, vb⟩] n) ∈ led → NodeAt led vb b → NodeAt led (.ref x) (.opt b)
  | rep {x d n sl h t h2 t2 t3 h4 t4 t5 vb b} {hi : Nat} : (x, (⟨.ref 459, some d, .plain, sl⟩ : Obj)) ∈ led → (d, dictOf [⟨h, .str (Str.ofString "body") t, vb⟩, ⟨h2, .str (Str.ofString "low") t2, .int 0 t3⟩, ⟨h4, .str (Str.ofString "high") t4, .int hi t5⟩] n) ∈ led → NodeAt led vb b → NodeAt led (.ref x) (.rep b hi)
theorem NodeAt.mono {led led' : Led} (hs : ∀ p ∈ led, p ∈ led') {v : Value} {d : Nd} (h : NodeAt led v d) : NodeAt led' v d := by
  induction h with
  | empty a b => exact .empty (hs _ a) (hs _ b)
  | never a b => exact .never (hs _ a) (hs _ b)
  | charsE a b c d e => exact .charsE (hs _ a) (hs _ b) (hs _ c) (hs _ d) (hs _ e)
  | chars a b c d e => exact .chars (hs _ a) (hs _ b) (hs _ c) (hs _ d) (hs _ e)
  | cat a b _ _ i j => exact .cat (hs _ a) (hs _ b) i j
  | alt a b _ _ i j => exact .alt (hs _ a) (hs _ b) i j
  | star a b _ i => exact .star (hs _ a) (hs _ b) i
  | plus a b _ i => exact .plus (hs _ a) (hs _ b) i
  | opt a b _ i => exact .opt (hs _ a) (hs _ b) i
  | rep a b _ i => exact .rep (hs _ a) (hs _ b) i
theorem words_con_1 : True := by
  k_with "k_enter" => first
    | (refine' code_def ?k1 ?k2 ?k3 ?k4 ?k5 ?kA ?kF ?kK ?k6 ?k7 ?k8 ?k9 ?kB ?_ ?c2 ?c3 ?c4 ?c5; (case kA => exact rfl); (case kF => exact rfl); (case kK => first | exact rfl | assumption); (case k1 => k_asm); (case k2 => k_asm); (case k3 => k_asm); (case k4 => k_asm); (case k5 => k_asm); (case k6 => k_is); (case k7 => k_is); (case k8 => first | ktr_room | (dsimp only [A1]; ktr_room)); (case k9 => first | exact BindsTo.of_eq rfl | exact binds_K (by k_in) rfl (by k_is) rfl rfl rfl | fail "k_enter: no rule for these arguments"); (case c5 => decide); (case kB => exact locs rfl); (case c2 => exact rfl); (case c3 => exact rfl); (case c4 => exact rfl); k_whole; intro g' L' h' FG' F' N' B' X' T'; (try dsimp only); (try k_lift B'); (try k_fold); (try (refine letA ?_; intro A1)))
    | (refine' code_defC ?k1 ?k2 ?k3 ?k4 ?k5 ?kA ?kF ?kK ?k6 ?k7 ?k8 ?k9 ?kB ?kD ?_ ?c2 ?c3 ?c4; (case kA => exact rfl); (case kF => exact rfl); (case kK => first | exact rfl | assumption); (case k1 => k_asm); (case k2 => k_asm); (case k3 => k_asm); (case k4 => k_asm); (case k5 => k_asm); (case k6 => k_is); (case k7 => k_is); (case k8 => first | ktr_room | (dsimp only [A1]; ktr_room)); (case k9 => first | exact BindsTo.of_eq rfl | exact binds_K (by k_in) rfl (by k_is) rfl rfl rfl | fail "k_enter: no rule for these arguments"); (case kB => exact rfl); (case kD => decide +kernel); (case c2 => exact rfl); (case c3 => exact rfl); (case c4 => exact rfl); k_whole; intro g' L' h' tk' cells' FG' F' N' Y' B' X' T' l1; (try k_lt l1); k_cells Y'; (try simp only [List.cons_append, List.nil_append] at N'); (try dsimp only); (try k_lift B'); (try k_fold))
  trivial
theorem ordOf {led nw : Led} {b : Addr} (h : ∀ q ∈ led, @LT.lt Nat _ q.1 b) (h2 : ∀ p ∈ nw, @LE.le Nat _ b p.1) : ∀ q ∈ led, ∀ p ∈ nw, @Ne Nat q.1 p.1 :=
  fun q hq p hp => Nat.ne_of_lt (Nat.lt_of_lt_of_le (h q hq) (h2 p hp))
theorem ordNil {led : Led} : ∀ q ∈ led, ∀ p ∈ ([] : Led), @Ne Nat q.1 p.1 := fun _ _ _ h => nomatch h
theorem off1Mem {D : Addr} : ∀ {l : Led}, LCg.Off1 D l → ∀ p ∈ l, @Ne Nat p.1 D
  | [], _, _, h => nomatch h
  | _ :: _, o, p, h => by
    rcases List.mem_cons.mp h with rfl | h
    · exact o.1
    · exact off1Mem o.2 p h
theorem ordOff {led : Led} {D : Addr} {o : Obj} (h : LCg.Off1 D led) : ∀ q ∈ led, ∀ p ∈ [(D, o)], @Ne Nat q.1 p.1 := fun q hq p hp => by rw [List.mem_singleton.mp hp]; exact off1Mem h q hq
theorem words_con_2 : True := by
  k_with "k_news" => first
    | k_asm
    | (refine newsSub (by assumption) ?_; (try dsimp only [List.nil_append, List.cons_append]); (repeat (refine List.forall_mem_cons.mpr ⟨?nwa, ?_⟩; (case nwa => k_mem))); walk_at "my sub")
  k_with "k_ord" => first
    | exact ordNil
    | exact ordOff (by assumption)
    | (refine' ordOf ?h ?b; (case h => assumption); (case b => repeat (first | exact List.forall_mem_nil _ | (refine List.forall_mem_cons.mpr ⟨?oda, ?_⟩; (case oda => ((try dsimp only); omega))))))
  trivial
theorem words_con_3 : True := by
  k_with "call ref" => (k_here; k_dflt (first
    | (refine' Con.use ?C ?B ?F ?X ?N ?s ?T ?kK ?d ?u ?_; (case C => assumption); (case B => k_asm); (case F => k_asm); (case X => k_asm); (case N => k_asm); (case s => first | assumption | walk_at "my sub"); (case T => k_asm); (case kK => first | exact rfl | assumption); (case d => first | exact roomC (by assumption) rfl | exact roomA (by assumption) rfl | ktr_room); (case u => first | exact roomC (by assumption) rfl | exact roomA (by assumption) rfl | ktr_units))
    | (refine' Con.useL ?B ?F ?X ?N ?C ?T ?kK ?d ?u ?_; (case F => k_asm); (case N => k_asm); (case C => walk_at "con"); (case B => k_asm); (case X => k_asm); (case T => k_asm); (case kK => first | exact rfl | assumption); (case d => first | exact roomC (by assumption) rfl | exact roomA (by assumption) rfl | ktr_room); (case u => first | exact roomC (by assumption) rfl | exact roomA (by assumption) rfl | ktr_units))); intro v9 nw9 h9 tk9 o9 l9 F9 N9; (try dsimp only at o9); walk_at "con out"; (try dsimp only); (try k_fold))
  k_with "con out" => skip
  k_with "con out" => (obtain ⟨D9, k9, e9, e9'⟩ := o9; subst e9 e9'; (try dsimp only [List.cons_append, List.nil_append] at N9))
  k_with "con out" => (obtain ⟨e9, o9⟩ := o9; subst e9; clear l9; (try simp only [List.nil_append] at N9); walk_at "con out2")
  k_with "con out2" => skip
  k_with "con out2" => (have e9 := o9; subst e9)
  k_with "con out2" => (obtain ⟨t9, e9⟩ := o9; subst e9)
  trivial
/-- the map m is M0 but for the names xs -/
def Keeps (xs : List Str) (M0 m : Str → Option Value) : Prop := ∀ z, xs.contains z = false → m z = M0 z
theorem Keeps.refl {xs : List Str} {M0 : Str → Option Value} : Keeps xs M0 M0 := fun _ _ => rfl
theorem Keeps.set {xs : List Str} {M0 m : Str → Option Value} {k : Str} {v : Option Value} (hk : xs.contains k = true) (h : Keeps xs M0 m) : Keeps xs M0 (fun y => if y = k then v else m y) := by
  intro z hz
  have : z ≠ k := by rintro rfl; rw [hk] at hz; cases hz
  simp only [if_neg this]
  exact h z hz
theorem Keeps.ovr {xs : List Str} {M0 u : Str → Option Value} : Keeps xs M0 (ovr xs u M0) := by
  intro z hz
  simp only [Mine.ovr, hz, Bool.false_eq_true, if_false]
theorem Keeps.trans {xs : List Str} {M0 m m' : Str → Option Value} (h : Keeps xs M0 m) (h' : Keeps xs m m') : Keeps xs M0 m' := fun z hz => (h' z hz).trans (h z hz)
theorem Keeps.widen {xs ys : List Str} {M0 m : Str → Option Value} (h : Keeps xs M0 m) (hs : xs.all (fun x => ys.contains x) = true) : Keeps ys M0 m := by
  intro z hz
  refine h z (Bool.eq_false_iff.mpr fun hx => ?_)
  have := List.all_eq_true.mp hs z (by simpa using hx)
  rw [hz] at this
  cases this
theorem canon0 {xs : List Str} {M0 m : Str → Option Value} (h : Keeps xs M0 m) : ∃ u, m = ovr xs u M0 := by
  refine ⟨m, funext fun z => ?_⟩
  unfold Mine.ovr
  by_cases e : xs.contains z = true
  · rw [if_pos e]
  · rw [if_neg e]; exact h z (Bool.eq_false_iff.mpr e)
theorem canonS {m g : Str → Option Value} {k : Str} {v : Value} (h : ∀ z, m z = g z) (hk : m k = some v) : m = fun y => if y = k then some v else g y := by
  funext z
  by_cases e : z = k
  · rw [if_pos e, e]; exact hk
  · rw [if_neg e]; exact h z
theorem canon1 {xs : List Str} {M0 m : Str → Option Value} {k : Str} {v : Value} (h : Keeps xs M0 m) (hk : m k = some v) : ∃ u, m = fun y => if y = k then some v else ovr xs u M0 y := by
  obtain ⟨u, e⟩ := canon0 h
  exact ⟨u, canonS (fun z => congrFun e z) hk⟩
theorem canon2 {xs : List Str} {M0 m : Str → Option Value} {k k2 : Str} {v v2 : Value} (h : Keeps xs M0 m) (hk : m k = some v) (hk2 : m k2 = some v2) : ∃ u, m = fun y => if y = k then some v else if y = k2 then some v2 else ovr xs u M0 y := by
  obtain ⟨u, e⟩ := canon1 h hk2
  exact ⟨u, canonS (fun z => congrFun e z) hk⟩
theorem canon3 {xs : List Str} {M0 m : Str → Option Value} {k k2 k3 : Str} {v v2 v3 : Value} (h : Keeps xs M0 m) (hk : m k = some v) (hk2 : m k2 = some v2) (hk3 : m k3 = some v3) : ∃ u, m = fun y => if y = k then some v else if y = k2 then some v2 else if y = k3 then some v3 else ovr xs u M0 y := by
  obtain ⟨u, e⟩ := canon2 h hk2 hk3
  exact ⟨u, canonS (fun z => congrFun e z) hk⟩
theorem words_con_4 : True := by
  k_with "k_keeps" => repeat (first | exact Keeps.refl | exact Keeps.ovr | assumption | refine Keeps.set (by rfl) ?_)
  trivial
structure HoldIf : Prop where
theorem words_con_5 : True := by
  k_with "exec If" => (k_here; (rename HoldIf => hI9); (with_reducible show wpAny _ _ (exec (PySem.Stmt.If _ _ _ _) _) _ _ _); refine held ?_)
  trivial
theorem words_con_6 : True := by
  k_with "pyIter ref" => (k_here; (rename HoldMark => hM9); (with_reducible show wpAny _ _ (pyIter (Value.ref _)) _ _ _); refine held ?_)
  trivial

def Nd.name : Nd → Str
  | .empty => Str.ofString "empty"
  | .never => Str.ofString "never"
  | .chars _ => Str.ofString "chars"
  | .cat _ _ => Str.ofString "cat"
  | .alt _ _ => Str.ofString "alt"
  | .star _ => Str.ofString "star"
  | .plus _ => Str.ofString "plus"
  | .opt _ => Str.ofString "opt"
  | .rep _ _ => Str.ofString "repeat"
theorem nm1 : Nd.empty.name = Str.ofString "empty" := rfl
theorem nm2 : Nd.never.name = Str.ofString "never" := rfl
theorem nm3 {f : Bool} : (Nd.chars f).name = Str.ofString "chars" := rfl
theorem nm4 {l r : Nd} : (Nd.cat l r).name = Str.ofString "cat" := rfl
theorem nm5 {l r : Nd} : (Nd.alt l r).name = Str.ofString "alt" := rfl
theorem nm6 {b : Nd} : (Nd.star b).name = Str.ofString "star" := rfl
theorem nm7 {b : Nd} : (Nd.plus b).name = Str.ofString "plus" := rfl
theorem nm8 {b : Nd} : (Nd.opt b).name = Str.ofString "opt" := rfl
theorem nm9 {b : Nd} {h : Nat} : (Nd.rep b h).name = Str.ofString "repeat" := rfl
theorem nodeName {w : World} {A : Around} {E : Value → Shared → Prop} {s : Shared} {h₀ : Heap} {L : Addr} {m : Str → Option Value} {expr : Bool} {led sub : Led} {v : Value} {d : Nd} {Q : Value → Shared → Prop}
    (X : (kmk.heap_1 w.params).In h₀) (F : Fr h₀ L s.heap m) (N : News h₀ L s.heap led) (hs : ∀ p ∈ sub, p ∈ led) (h : NodeAt sub v d)
    (hq : ∀ t, Q (.str d.name t) { s with toks := s.toks + 1 }) : wpAny (model PySem.Challenge.rw_qd0068_01.row.prog w) A (getAttr v (Str.ofString "name") expr) Q E s := by
  revert X; k_fill; intro X
  replace h := h.mono hs
  cases h <;> (walk_at "getAttr ref"; exact hq _)
theorem nodeSkip {w : World} {A : Around} {E : Value → Shared → Prop} {s : Shared} {h₀ : Heap} {L a : Addr} {m : Str → Option Value} {cn : Str} {cs : Scope} {ccd : Value} {cl : List (Str × Addr)} {x lit : Str} {xp ap cp p ip : Pos} {k : Nat} {body rest : List Stmt} {led sub : Led} {v : Value} {d : Nd} {Q : Flow → Shared → Prop}
    (hm : m x = some v) (X : (kmk.heap_1 w.params).In h₀) (F : Fr h₀ L s.heap m) (N : News h₀ L s.heap led) (hs : ∀ p ∈ sub, p ∈ led) (h : NodeAt sub v d) (hne : (d.name == lit) = false)
    (hq : ∀ tk, wpAny (model PySem.Challenge.rw_qd0068_01.row.prog w) A (execs rest (envX cn cs L a ccd cl)) Q E { s with toks := tk })
    (hk : cs.kind = .function) (hl : (envX cn cs L a ccd cl).kindOf x = some .local) (hd : (x == Str.ofString "__debug__") = false) :
    wpAny (model PySem.Challenge.rw_qd0068_01.row.prog w) A (execs (.If (.Compare (.Attribute (.Name x xp) (Str.ofString "name") ap) [.Eq] [.Constant (.str lit) k cp] p) body [] ip :: rest) (envX cn cs L a ccd cl)) Q E s := by
  refine wpAny_execs_cons (wpAny_If (wpAny_isTrue_Compare1 (Attribute_Name_ (nameX_L F hm (nodeName X F N hs h fun t => Constant_str (eq_str (wpAny_truthy_bool ?_))) hk hl hd)) rfl))
  rw [hne, if_neg Bool.false_ne_true]
  exact wpAny_execs_nil (hq _)
theorem nodeTake {w : World} {A : Around} {E : Value → Shared → Prop} {s : Shared} {h₀ : Heap} {L a : Addr} {m : Str → Option Value} {cn : Str} {cs : Scope} {ccd : Value} {cl : List (Str × Addr)} {x lit : Str} {xp ap cp p ip : Pos} {k : Nat} {body rest : List Stmt} {led sub : Led} {v : Value} {d : Nd} {Q : Flow → Shared → Prop}
    (hm : m x = some v) (X : (kmk.heap_1 w.params).In h₀) (F : Fr h₀ L s.heap m) (N : News h₀ L s.heap led) (hs : ∀ p ∈ sub, p ∈ led) (h : NodeAt sub v d) (hne : (d.name == lit) = true)
    (hq : ∀ tk, wpAny (model PySem.Challenge.rw_qd0068_01.row.prog w) A (execs body (envX cn cs L a ccd cl)) (fun f s' => match f with | .next => wpAny (model PySem.Challenge.rw_qd0068_01.row.prog w) A (execs rest (envX cn cs L a ccd cl)) Q E s' | f => Q f s') E { s with toks := tk })
    (hk : cs.kind = .function) (hl : (envX cn cs L a ccd cl).kindOf x = some .local) (hd : (x == Str.ofString "__debug__") = false) :
    wpAny (model PySem.Challenge.rw_qd0068_01.row.prog w) A (execs (.If (.Compare (.Attribute (.Name x xp) (Str.ofString "name") ap) [.Eq] [.Constant (.str lit) k cp] p) body [] ip :: rest) (envX cn cs L a ccd cl)) Q E s := by
  refine wpAny_execs_cons (wpAny_If (wpAny_isTrue_Compare1 (Attribute_Name_ (nameX_L F hm (nodeName X F N hs h fun t => Constant_str (eq_str (wpAny_truthy_bool ?_))) hk hl hd)) rfl))
  rw [hne, if_pos rfl]
  exact hq _
theorem words_node_1 : True := by
  k_with "getAttr ref" => (k_here; k_dflt (refine' nodeName ?X ?F ?N ?s ?h ?_; (case h => assumption); (case X => k_asm); (case F => k_asm); (case N => k_asm); (case s => walk_at "my sub")); intro t9; (try dsimp only [nm1, nm2, nm3, nm4, nm5, nm6, nm7, nm8, nm9]))
  k_with "execs cons" => (k_here; (with_reducible show wpAny _ _ (execs (PySem.Stmt.If (PySem.Expr.Compare (PySem.Expr.Attribute (PySem.Expr.Name _ _) _ _) [PySem.CmpOp.Eq] [PySem.Expr.Constant (PySem.Const.str _) _ _] _) _ [] _ :: _) _) _ _ _); k_dflt (refine' nodeTake ?ndm ?ndX ?ndF ?ndN ?nds ?ndh ?ndne ?_ ?ndk ?ndl ?ndd; (case ndX => k_asm); (case ndF => k_asm); (case ndN => k_asm); (case ndm => exact rfl); (case ndh => assumption); (case ndne => first | assumption | ((try dsimp only [nm1, nm2, nm3, nm4, nm5, nm6, nm7, nm8, nm9]); decide +kernel)); (case nds => walk_at "my sub"); (case ndk => exact rfl); (case ndl => exact rfl); (case ndd => decide +kernel)); intro t9; (try dsimp only))
  k_with "execs cons" => (k_here; (with_reducible show wpAny _ _ (execs (PySem.Stmt.If (PySem.Expr.Compare (PySem.Expr.Attribute (PySem.Expr.Name _ _) _ _) [PySem.CmpOp.Eq] [PySem.Expr.Constant (PySem.Const.str _) _ _] _) _ [] _ :: _) _) _ _ _); k_dflt (refine' nodeSkip ?ndm ?ndX ?ndF ?ndN ?nds ?ndh ?ndne ?_ ?ndk ?ndl ?ndd; (case ndX => k_asm); (case ndF => k_asm); (case ndN => k_asm); (case ndm => exact rfl); (case ndh => assumption); (case ndne => first | assumption | ((try dsimp only [nm1, nm2, nm3, nm4, nm5, nm6, nm7, nm8, nm9]); decide +kernel)); (case nds => walk_at "my sub"); (case ndk => exact rfl); (case ndl => exact rfl); (case ndd => decide +kernel)); intro t9; (try dsimp only))
  trivial
theorem NodeAt.ref {led : Led} {v : Value} {d : Nd} (h : NodeAt led v d) : ∃ a, v = .ref a := by cases h <;> exact ⟨_, rfl⟩
def Nd.isPair : Nd → Bool
  | .cat _ _ => true
  | .alt _ _ => true
  | _ => false
theorem spineCat (w : World) (vl vr : Value) (l r : Nd) (sub : Led) {x d n sl h t h2 t2} (hx : (x, (⟨.ref 352, some d, .plain, sl⟩ : Obj)) ∈ sub) (hy : (d, dictOf [⟨h, .str (Str.ofString "left") t, vl⟩, ⟨h2, .str (Str.ofString "right") t2, vr⟩] n) ∈ sub)
    (hl : NodeAt sub vl l) (hr : NodeAt sub vr r) (hn : (l.name == Str.ofString "cat") = false) : Con w 468 [.ref x] 40 500 sub (fun v nw led => ∃ D k, v = .ref D ∧ nw = [(D, listOf #[vl, vr] k)]) := by
  intro mean mg mb dp un gd cn cs a ccd cl outer A₀ base h₀ L m s Q E led B F X N hsub T hk hd hu hret
  revert X; k_fill; intro X
  have hx := hsub _ hx
  have hy := hsub _ hy
  have hl := hl.mono hsub
  obtain ⟨xl, rfl⟩ := hl.ref
  obtain ⟨xr, rfl⟩ := hr.ref
  have hv : NodeAt led (.ref x) (.cat l r) := .cat hx hy hl (hr.mono hsub)
  refine wpAny_call ?_
  k_dflt ktr_enter
  (try (with_reducible show wpAny _ _ _ _ _ _))
  (try k_fold)
  k_steps
  refine' hret _ [_] _ _ ⟨_, _, rfl, rfl⟩ ?o ?F ?N
  (case F => k_asm)
  (case N => k_asm)
  (case o => walk_at "k_ord")
theorem spineAlt (w : World) (vl vr : Value) (l r : Nd) (sub : Led) {x d n sl h t h2 t2} (hx : (x, (⟨.ref 364, some d, .plain, sl⟩ : Obj)) ∈ sub) (hy : (d, dictOf [⟨h, .str (Str.ofString "left") t, vl⟩, ⟨h2, .str (Str.ofString "right") t2, vr⟩] n) ∈ sub)
    (hl : NodeAt sub vl l) (hr : NodeAt sub vr r) (hn : (l.name == Str.ofString "alt") = false) : Con w 468 [.ref x] 40 500 sub (fun v nw led => ∃ D k, v = .ref D ∧ nw = [(D, listOf #[vl, vr] k)]) := by
  intro mean mg mb dp un gd cn cs a ccd cl outer A₀ base h₀ L m s Q E led B F X N hsub T hk hd hu hret
  revert X; k_fill; intro X
  have hx := hsub _ hx
  have hy := hsub _ hy
  have hl := hl.mono hsub
  obtain ⟨xl, rfl⟩ := hl.ref
  obtain ⟨xr, rfl⟩ := hr.ref
  have hv : NodeAt led (.ref x) (.alt l r) := .alt hx hy hl (hr.mono hsub)
  refine wpAny_call ?_
  k_dflt ktr_enter
  (try (with_reducible show wpAny _ _ _ _ _ _))
  (try k_fold)
  k_steps
  refine' hret _ [_] _ _ ⟨_, _, rfl, rfl⟩ ?o ?F ?N
  (case F => k_asm)
  (case N => k_asm)
  (case o => walk_at "k_ord")

/-- what a length is told by -/
def LenV (o : Option Int) (v : Value) : Prop := match o with
  | none => v = .none
  | some x => ∃ t, v = .int x t
abbrev lenOut (o : Option Int) (v : Value) (nw _led : Led) : Prop := nw = [] ∧ LenV o v
def rowL (os : List (Option Int)) : Option Int := if os.any (fun o => o.any (fun x => decide (x < 0))) then some (-1) else if os.any (·.isNone) then none else some (os.foldl (fun s o => s + o.getD 0) 0)
structure RowSt (os : List (Option Int)) (x : Int) (b : Bool) : Prop where
  neg : os.any (fun o => o.any (fun x => decide (x < 0))) = false
  non : os.any (·.isNone) = b
  sum : os.foldl (fun s o => s + o.getD 0) 0 = x
theorem RowSt.none {os : List (Option Int)} {x : Int} {b : Bool} {i : Nat} (h : RowSt (os.take i) x b) (e : os[i]? = some none) : RowSt (os.take (i + 1)) x true := by
  rw [List.take_add_one, e]
  exact ⟨by simp [h.neg], by simp, by simp [h.sum]⟩
theorem RowSt.some {os : List (Option Int)} {x y : Int} {b : Bool} {i : Nat} (h : RowSt (os.take i) x b) (e : os[i]? = some (some y)) (hy : ¬ y < 0) : RowSt (os.take (i + 1)) (x + y) b := by
  rw [List.take_add_one, e]
  exact ⟨by simp [h.neg]; omega, by simp [h.non], by simp [h.sum]⟩
theorem rowL_neg {os : List (Option Int)} {y : Int} {i : Nat} (e : os[i]? = some (some y)) (hy : y < 0) : rowL os = some (-1) := by
  unfold rowL
  rw [if_pos]
  exact List.any_eq_true.mpr ⟨_, List.mem_of_getElem? e, by simpa using hy⟩
theorem rowL_end {os : List (Option Int)} {x : Int} {b : Bool} {n : Nat} (h : RowSt (os.take n) x b) (hn : n = os.length) : rowL os = if b then none else some x := by
  subst hn
  rw [List.take_length] at h
  unfold rowL
  rw [h.neg, h.non, h.sum]
  rfl
theorem words_mlen_1 : True := by
  k_with "con out2" => (dsimp only [LenV] at o9; first | (obtain ⟨t9, e9⟩ := o9; subst e9) | (have e9 := o9; subst e9))
  trivial
theorem rowC (w : World) (vs : List Value) (os : List (Option Int)) (sub : Led) {D k} (n u : Nat) (hD : (D, listOf vs.toArray k) ∈ sub) (hc : All2 (fun v o => Con w 517 [v] n u sub (lenOut o)) vs os) :
    Con w 524 [.ref D] (n + 20) (u + 200) sub (lenOut (rowL os)) := by
  intro mean mg mb dp un gd cn cs a0 ccd cl0 outer A₀ base h₀ L m s Q E led B F X N hsub T hk hd hu hret
  revert X; k_fill; intro X
  have hM9 : HoldMark := ⟨⟩
  have hD := hsub _ hD
  refine wpAny_call ?_
  k_dflt ktr_enter
  (try (with_reducible show wpAny _ _ _ _ _ _))
  (try k_fold)
  k_steps
  refine ⟨?_⟩
  refine forMem (stat := led) (var₀ := []) hD (by assumption) (by assumption) (fun i m nx => nx = [] ∧ Keeps [Str.ofString "part", Str.ofString "more", Str.ofString "length", Str.ofString "is_endless"] _ m ∧ ∃ x t b, m (Str.ofString "length") = some (.int x t) ∧ m (Str.ofString "is_endless") = some (.bool b) ∧ RowSt (os.take i) x b)
    (by rfl) (by rfl) (fun _ => rfl) (by passes_own) ?hi (by rfl) (fun _ h => nomatch h) ⟨rfl, .refl, 0, _, _, rfl, rfl, ⟨rfl, rfl, rfl⟩⟩ ?turn ?done
  (case hi =>
    (try (with_reducible show wpAny _ _ _ _ _ _))
    (try k_fold)
    k_steps
    refine' ⟨_, _, rfl, rfl, ?F, ?N⟩
    (case F => k_asm)
    (case N => walk_at "k_news"))
  (case turn =>
    intro i v m₁ nx h tk I oI hv hI ho hst hJ9 F1 N1
    (with_reducible show wpAny _ _ _ _ _ _)
    k_fold
    first | (refine' ex1 (hJ9) ?_; intro _ _ ) | (refine' and2 (hJ9) ?_; intro _ _ ) | (obtain ⟨_, _⟩ := hJ9)
    rename_i e9x371 r9x372
    try (clear hJ9)
    subst e9x371
    first | (refine' ex6 (r9x372) ?_; intro _ _ _ _ _ _ _ ) | (refine' ex4 (r9x372) ?_; intro _ _ _ _ h9e; walk_at "sp 3") | (refine' ex3 (r9x372) ?_; intro _ _ _ h9e; walk_at "sp 4") | (refine' ex2 (r9x372) ?_; intro _ _ h9e; walk_at "sp 5") | (refine' ex1 (r9x372) ?_; intro _ h9e; walk_at "sp 6") | (refine' and6 (r9x372) ?_; intro _ _ _ _ _ h9e; walk_at "sp 2") | (refine' and4 (r9x372) ?_; intro _ _ _ h9e; walk_at "sp 4") | (refine' and3 (r9x372) ?_; intro _ _ h9e; walk_at "sp 5") | (refine' and2 (r9x372) ?_; intro _ h9e; walk_at "sp 6") | (obtain ⟨_, _, _, _, _, _, _⟩ := r9x372)
    rename_i hK x t b e1 e2 hS
    try (clear r9x372)
    obtain ⟨u', rfl⟩ := canon2 hK e1 e2
    dsimp only [List.nil_append] at N1
    obtain ⟨o, ho', C⟩ := hc.get hv
    replace C := C.mono hsub
    clear e1 e2
    cases o with
    | none =>
      (try (with_reducible show wpAny _ _ _ _ _ _))
      (try k_fold)
      k_steps
      refine' CutI.mk ⟨_, _, _, [], rfl, ?F, ?N, ho, rfl, ?K, _, _, _, ?e1, ?e2, hS.none ho'⟩
      (case F => k_asm)
      (case N => walk_at "k_news")
      (case K => walk_at "k_keeps")
      (case e1 => rfl)
      (case e2 => rfl)
    | some y =>
      (try (with_reducible show wpAny _ _ _ _ _ _))
      (try k_fold)
      k_steps
      · refine ItPostM.ret ?_
        (try (with_reducible show wpAny _ _ _ _ _ _))
        (try k_fold)
        k_steps
        refine' hret _ [] _ _ ⟨rfl, ?o⟩ ordNil ?F ?N
        (case F => k_asm)
        (case N => walk_at "k_news")
        (case o => (rw [rowL_neg ho' (by assumption)]; exact ⟨_, rfl⟩))
      · refine' CutI.mk ⟨_, _, _, [], rfl, ?F, ?N, ho, rfl, ?K, _, _, _, ?e1, ?e2, hS.some ho' (by assumption)⟩
        (case F => k_asm)
        (case N => walk_at "k_news")
        (case K => walk_at "k_keeps")
        (case e1 => rfl)
        (case e2 => rfl))
  (case done =>
    intro m₁ nx h tk q9x380
    first | (refine' ex1 (q9x380) ?_; intro _ _ ) | (refine' and2 (q9x380) ?_; intro _ _ ) | (obtain ⟨_, _⟩ := q9x380)
    rename_i e9x381 r9x382
    try (clear q9x380)
    subst e9x381
    first | (refine' ex6 (r9x382) ?_; intro _ _ _ _ _ _ _ ) | (refine' ex4 (r9x382) ?_; intro _ _ _ _ h9e; walk_at "sp 3") | (refine' ex3 (r9x382) ?_; intro _ _ _ h9e; walk_at "sp 4") | (refine' ex2 (r9x382) ?_; intro _ _ h9e; walk_at "sp 5") | (refine' ex1 (r9x382) ?_; intro _ h9e; walk_at "sp 6") | (refine' and6 (r9x382) ?_; intro _ _ _ _ _ h9e; walk_at "sp 2") | (refine' and4 (r9x382) ?_; intro _ _ _ h9e; walk_at "sp 4") | (refine' and3 (r9x382) ?_; intro _ _ h9e; walk_at "sp 5") | (refine' and2 (r9x382) ?_; intro _ h9e; walk_at "sp 6") | (obtain ⟨_, _, _, _, _, _, _⟩ := r9x382)
    rename_i hK x t b e1 e2 hS
    try (clear r9x382)
    intro F1 N1 ho
    obtain ⟨u', rfl⟩ := canon2 hK e1 e2
    clear e1 e2
    dsimp only [List.nil_append] at N1
    have hl := hc.length
    cases b
    all_goals (
      (try (with_reducible show wpAny _ _ _ _ _ _))
      (try k_fold)
      k_steps
      refine' hret _ [] _ _ ⟨rfl, ?o⟩ ordNil ?F ?N
      (case F => k_asm)
      (case N => walk_at "k_news")
      (case o => (rw [rowL_end hS hl]; first | exact rfl | exact ⟨_, rfl⟩))))
def loopLow : Nd → Int
  | .plus _ => 1
  | _ => 0
def loopHigh : Nd → Option Nat
  | .opt _ => some 1
  | .rep _ h => some h
  | _ => none
def loopLen (low : Int) (high : Option Nat) (o : Option Int) : Option Int :=
  if high = some 0 then some 0 else match o with
  | none => none
  | some x => if x < 0 then (if low = 0 then some 0 else some (-1)) else if x = 0 then some 0 else match high with
    | none => none
    | some h => some (x * h)
def Nd.isLoop : Nd → Bool
  | .star _ => true
  | .plus _ => true
  | .opt _ => true
  | .rep _ _ => true
  | _ => false
theorem llA {low : Int} {hi : Nat} {o : Option Int} {t : Tok} (h : (hi : Int) = 0) : LenV (loopLen low (some hi) o) (.int 0 t) := by
  obtain rfl : hi = 0 := by omega
  exact ⟨t, rfl⟩
theorem hiNe {hi : Nat} (h : (hi : Int) ≠ 0) : (some hi : Option Nat) ≠ some 0 := by intro e; cases e; exact h rfl
theorem noNe : (none : Option Nat) ≠ some 0 := nofun
theorem llB {low : Int} {high : Option Nat} (h : high ≠ some 0) : LenV (loopLen low high none) .none := by simp [loopLen, h, LenV]
theorem llC {low x : Int} {high : Option Nat} {t : Tok} (h : high ≠ some 0) (hx : x < 0) (hl : low = 0) : LenV (loopLen low high (some x)) (.int 0 t) := by
  simp [loopLen, h, LenV, hx, hl]
theorem llD {low x : Int} {high : Option Nat} {t : Tok} (h : high ≠ some 0) (hx : x < 0) (hl : low ≠ 0) : LenV (loopLen low high (some x)) (.int (-1) t) := by
  simp [loopLen, h, LenV, hx, hl]
theorem llE {low x : Int} {high : Option Nat} {t : Tok} (h : high ≠ some 0) (hx : ¬ x < 0) (hl : x = 0) : LenV (loopLen low high (some x)) (.int 0 t) := by
  simp [loopLen, h, LenV, hx, hl]
theorem llF {low x : Int} (hx : ¬ x < 0) (hl : x ≠ 0) : LenV (loopLen low none (some x)) .none := by
  simp [loopLen, LenV, hx, hl]
theorem llG {low x : Int} {hi : Nat} {t : Tok} (h : (hi : Int) ≠ 0) (hx : ¬ x < 0) (hl : x ≠ 0) : LenV (loopLen low (some hi) (some x)) (.int (x * hi) t) := by
  have h' := hiNe h
  simp [loopLen, h', LenV, hx, hl]
theorem loopC (w : World) (v vl : Value) (d : Nd) (o : Option Int) (sub : Led) (hv : NodeAt sub v d) (hd : d.isLoop = true) (hl : LenV o vl) (hh : ∀ h, loopHigh d = some h → h ≤ 2) (ho : ∀ x, o = some x → x ≤ 10) : Con w 531 [v, vl] 20 300 sub (lenOut (loopLen (loopLow d) (loopHigh d) o)) := by
  intro mean mg mb dp un gd cn cs a0 ccd cl0 outer A₀ base h₀ L m s Q E led B F X N hsub T hk hdp hu hret
  revert X; k_fill; intro X
  have hI9 : HoldIf := ⟨⟩
  replace hv := hv.mono hsub
  obtain ⟨a, rfl⟩ := hv.ref
  refine wpAny_call ?_
  k_dflt walk_at "k_enter"
  (try (with_reducible show wpAny _ _ _ _ _ _))
  (try k_fold)
  k_steps
  refine ⟨?_⟩
  clear hI9
  refine wcutF (by assumption) (fun M0 f s' => f = .next ∧ ∃ (h'' : Heap) (tk : Nat) (t : Tok) (hv : Value) (m' : Str → Option Value), s' = { s with heap := h'', toks := tk } ∧ Keeps [Str.ofString "low", Str.ofString "high"] M0 m' ∧ m' (Str.ofString "low") = some (.int (loopLow d) t) ∧ m' (Str.ofString "high") = some hv ∧
    LenV ((loopHigh d).map Int.ofNat) hv ∧ Fr g' L' h'' m' ∧ News g' L' h'' led) ?_ ?_
  · clear hret
    have hv' := hv
    cases d with
    | star b =>
      (try (with_reducible show wpAny _ _ _ _ _ _))
      (try k_fold)
      k_steps
      refine' ⟨rfl, _, _, _, _, _, rfl, ?K, ?e1, ?e2, ?v, ?F, ?N⟩
      (case F => k_asm)
      (case N => k_asm)
      (case K => walk_at "k_keeps")
      (case e1 => rfl)
      (case e2 => rfl)
      (case v => rfl)
    | plus b =>
      (try (with_reducible show wpAny _ _ _ _ _ _))
      (try k_fold)
      k_steps
      refine' ⟨rfl, _, _, _, _, _, rfl, ?K, ?e1, ?e2, ?v, ?F, ?N⟩
      (case F => k_asm)
      (case N => k_asm)
      (case K => walk_at "k_keeps")
      (case e1 => rfl)
      (case e2 => rfl)
      (case v => rfl)
    | opt b =>
      (try (with_reducible show wpAny _ _ _ _ _ _))
      (try k_fold)
      k_steps
      refine' ⟨rfl, _, _, _, _, _, rfl, ?K, ?e1, ?e2, ?v, ?F, ?N⟩
      (case F => k_asm)
      (case N => k_asm)
      (case K => walk_at "k_keeps")
      (case e1 => rfl)
      (case e2 => rfl)
      (case v => exact ⟨_, rfl⟩)
    | rep b h =>
      cases hv'
      (try (with_reducible show wpAny _ _ _ _ _ _))
      (try k_fold)
      k_steps
      refine' ⟨rfl, _, _, _, _, _, rfl, ?K, ?e1, ?e2, ?v, ?F, ?N⟩
      (case F => k_asm)
      (case N => k_asm)
      (case K => walk_at "k_keeps")
      (case e1 => rfl)
      (case e2 => rfl)
      (case v => exact ⟨_, rfl⟩)
    | _ => cases hd
  · skip
    intro f s' q9x390
    first | (refine' ex1 (q9x390) ?_; intro _ _ ) | (refine' and2 (q9x390) ?_; intro _ _ ) | (obtain ⟨_, _⟩ := q9x390)
    rename_i e9x391 r9x392
    try (clear q9x390)
    subst e9x391
    first | (refine' ex6 (r9x392) ?_; intro _ _ _ _ _ _ _ ) | (refine' ex4 (r9x392) ?_; intro _ _ _ _ h9e; walk_at "sp 3") | (refine' ex3 (r9x392) ?_; intro _ _ _ h9e; walk_at "sp 4") | (refine' ex2 (r9x392) ?_; intro _ _ h9e; walk_at "sp 5") | (refine' ex1 (r9x392) ?_; intro _ h9e; walk_at "sp 6") | (refine' and6 (r9x392) ?_; intro _ _ _ _ _ h9e; walk_at "sp 2") | (refine' and4 (r9x392) ?_; intro _ _ _ h9e; walk_at "sp 4") | (refine' and3 (r9x392) ?_; intro _ _ h9e; walk_at "sp 5") | (refine' and2 (r9x392) ?_; intro _ h9e; walk_at "sp 6") | (obtain ⟨_, _, _, _, _, _, _⟩ := r9x392)
    rename_i h'' tk t hv m' e9x398 r9x399
    try (clear r9x392)
    subst e9x398
    first | (refine' ex4 (r9x399) ?_; intro _ _ _ _ h9e; walk_at "sp 2") | (refine' ex3 (r9x399) ?_; intro _ _ _ h9e; walk_at "sp 3") | (refine' ex2 (r9x399) ?_; intro _ _ h9e; walk_at "sp 4") | (refine' ex1 (r9x399) ?_; intro _ h9e; walk_at "sp 5") | (refine' and6 (r9x399) ?_; intro _ _ _ _ _ _ ) | (refine' and4 (r9x399) ?_; intro _ _ _ h9e; walk_at "sp 3") | (refine' and3 (r9x399) ?_; intro _ _ h9e; walk_at "sp 4") | (refine' and2 (r9x399) ?_; intro _ h9e; walk_at "sp 5") | (obtain ⟨_, _, _, _, _, _⟩ := r9x399)
    rename_i hK e1 e2 hH F2 N2
    try (clear r9x399)
    obtain ⟨u, rfl⟩ := canon2 hK e1 e2
    clear e1 e2
    dsimp only
    have hlow : loopLow d = 0 ∨ loopLow d = 1 := by cases d <;> first | exact .inl rfl | exact .inr rfl
    generalize loopLow d = low at *
    generalize loopHigh d = high at *
    cases high with
    | none =>
      obtain rfl : hv = .none := hH
      cases o with
      | none =>
        obtain rfl : vl = .none := hl
        (try (with_reducible show wpAny _ _ _ _ _ _))
        (try k_fold)
        k_steps
        all_goals (
          refine' hret _ [] _ _ ⟨rfl, ?o⟩ ordNil ?F ?N
          (case F => k_asm)
          (case N => walk_at "k_news")
          (case o => first | exact llA (by assumption) | exact llB noNe | exact llB (hiNe (by assumption)) | exact llC noNe (by assumption) (by assumption) | exact llC (hiNe (by assumption)) (by assumption) (by assumption) | exact llD noNe (by assumption) (by assumption) | exact llD (hiNe (by assumption)) (by assumption) (by assumption) | exact llE noNe (by assumption) (by assumption) | exact llE (hiNe (by assumption)) (by assumption) (by assumption) | exact llF (by assumption) (by assumption) | exact llG (by assumption) (by assumption) (by assumption)))
      | some x =>
        obtain ⟨tx, rfl⟩ : ∃ t, vl = .int x t := hl
        have hx10 := ho _ rfl
        (try (with_reducible show wpAny _ _ _ _ _ _))
        (try k_fold)
        k_steps
        all_goals (
          refine' hret _ [] _ _ ⟨rfl, ?o⟩ ordNil ?F ?N
          (case F => k_asm)
          (case N => walk_at "k_news")
          (case o => first | exact llA (by assumption) | exact llB noNe | exact llB (hiNe (by assumption)) | exact llC noNe (by assumption) (by assumption) | exact llC (hiNe (by assumption)) (by assumption) (by assumption) | exact llD noNe (by assumption) (by assumption) | exact llD (hiNe (by assumption)) (by assumption) (by assumption) | exact llE noNe (by assumption) (by assumption) | exact llE (hiNe (by assumption)) (by assumption) (by assumption) | exact llF (by assumption) (by assumption) | exact llG (by assumption) (by assumption) (by assumption)))
    | some hi =>
      have hhi2 := hh _ rfl
      obtain ⟨th, rfl⟩ : ∃ t, hv = .int (hi : Int) t := hH
      cases o with
      | none =>
        obtain rfl : vl = .none := hl
        (try (with_reducible show wpAny _ _ _ _ _ _))
        (try k_fold)
        k_steps
        all_goals (
          refine' hret _ [] _ _ ⟨rfl, ?o⟩ ordNil ?F ?N
          (case F => k_asm)
          (case N => walk_at "k_news")
          (case o => first | exact llA (by assumption) | exact llB noNe | exact llB (hiNe (by assumption)) | exact llC noNe (by assumption) (by assumption) | exact llC (hiNe (by assumption)) (by assumption) (by assumption) | exact llD noNe (by assumption) (by assumption) | exact llD (hiNe (by assumption)) (by assumption) (by assumption) | exact llE noNe (by assumption) (by assumption) | exact llE (hiNe (by assumption)) (by assumption) (by assumption) | exact llF (by assumption) (by assumption) | exact llG (by assumption) (by assumption) (by assumption)))
      | some x =>
        obtain ⟨tx, rfl⟩ : ∃ t, vl = .int x t := hl
        have hx10 := ho _ rfl
        (try (with_reducible show wpAny _ _ _ _ _ _))
        (try k_fold)
        k_steps
        all_goals (
          refine' hret _ [] _ _ ⟨rfl, ?o⟩ ordNil ?F ?N
          (case F => k_asm)
          (case N => walk_at "k_news")
          (case o => first | exact llA (by assumption) | exact llB noNe | exact llB (hiNe (by assumption)) | exact llC noNe (by assumption) (by assumption) | exact llC (hiNe (by assumption)) (by assumption) (by assumption) | exact llD noNe (by assumption) (by assumption) | exact llD (hiNe (by assumption)) (by assumption) (by assumption) | exact llE noNe (by assumption) (by assumption) | exact llE (hiNe (by assumption)) (by assumption) (by assumption) | exact llF (by assumption) (by assumption) | exact llG (by assumption) (by assumption) (by assumption)))
theorem rowC2 (w : World) (vs : List Value) (os : List (Option Int)) (sub sub' : Led) {D k} (n u : Nat) (hc : All2 (fun v o => Con w 517 [v] n u sub (lenOut o)) vs os) (hs : ∀ p ∈ sub, p ∈ sub') (hD : (D, listOf vs.toArray k) ∈ sub') :
    Con w 524 [.ref D] (n + 20) (u + 200) sub' (lenOut (rowL os)) := rowC w vs os sub' n u hD (hc.imp fun _ _ C => C.mono hs)
def altJ : Option Int → Option Int → Option Int
  | some x, some y => some (if y > x then y else x)
  | _, _ => none
def altL (os : List (Option Int)) : Option Int := os.foldl altJ (some (-1))
theorem altJ_none (os : List (Option Int)) : os.foldl altJ none = none := by
  induction os with
  | nil => rfl
  | cons o os ih => rw [List.foldl_cons]; exact ih
theorem altL_none {os : List (Option Int)} {i : Nat} (h : os[i]? = some none) : altL os = none := by
  obtain ⟨a, b, e, -⟩ := List.getElem?_eq_some_iff.mp h |> fun ⟨hi, e⟩ => (⟨os.take i, os.drop (i + 1), by rw [← e]; simp, trivial⟩ : ∃ a b, os = a ++ none :: b ∧ True)
  unfold altL
  rw [e, List.foldl_append, List.foldl_cons]
  have : ∀ x, altJ x none = none := fun x => by cases x <;> rfl
  rw [this]
  exact altJ_none b
theorem altL_some {os : List (Option Int)} {i : Nat} {x y : Int} (hx : altL (os.take i) = some x) (h : os[i]? = some (some y)) : altL (os.take (i + 1)) = some (if y > x then y else x) := by
  unfold altL at *
  rw [List.take_add_one, h]
  simp [List.foldl_append, hx, altJ]
def mlen : Nd → Option Int
  | .empty => some 0
  | .never => some (-1)
  | .chars f => some (if f then 1 else -1)
  | .cat l r => rowL [mlen l, mlen r]
  | .alt l r => altL [mlen l, mlen r]
  | .star b => loopLen 0 none (mlen b)
  | .plus b => loopLen 1 none (mlen b)
  | .opt b => loopLen 0 (some 1) (mlen b)
  | .rep b h => loopLen 0 (some h) (mlen b)
/-- trees that most_length's contract covers -/
def Nd.ok : Nd → Bool
  | .empty | .never | .chars _ => true
  | .cat l r => l.ok && r.ok && l.name != Str.ofString "cat"
  | .alt l r => l.ok && r.ok && l.name != Str.ofString "alt"
  | .star b => b.ok && (mlen b).all (fun x => decide (x ≤ 10))
  | .plus b => b.ok && (mlen b).all (fun x => decide (x ≤ 10))
  | .opt b => b.ok && (mlen b).all (fun x => decide (x ≤ 10))
  | .rep b h => b.ok && decide (h ≤ 2) && (mlen b).all (fun x => decide (x ≤ 10))
def Nd.sz : Nd → Nat
  | .empty | .never | .chars _ => 1
  | .cat l r => l.sz + r.sz + 1
  | .alt l r => l.sz + r.sz + 1
  | .star b | .plus b | .opt b | .rep b _ => b.sz + 1
theorem words_mlen_2 : True := by
  k_with "con" => ((with_reducible refine' rowC2 _ _ _ _ _ _ _ ?cc ?s ?m); (case cc => assumption); (case m => k_mem); (case s => walk_at "my sub"))
  k_with "con" => (refine Con.mono (hlp _ (by assumption)) ?_; walk_at "my sub")
  trivial

abbrev MostC (w : World) (d : Nd) : Prop := ∀ (v : Value) (sub : Led), NodeAt sub v d → d.ok = true → Con w 517 [v] (60 * d.sz) (1000 * d.sz) sub (lenOut (mlen d))
theorem most_empty (w : World)  : MostC w (.empty) := by
  intro v sub hv hok mean mg mb dp un gd cn cs a0 ccd cl0 outer A₀ base h₀ L m s Q E led B F X N hsub T hk hdp hu hret
  simp only [Nd.sz] at hdp hu
  revert X; k_fill; intro X
  replace hv := hv.mono hsub
  obtain ⟨a, rfl⟩ := hv.ref
  refine wpAny_call ?_
  k_dflt walk_at "k_enter"
  (try (with_reducible show wpAny _ _ _ _ _ _))
  (try k_fold)
  k_steps
  refine' hret _ [] _ _ ⟨rfl, ?o⟩ ordNil ?F ?N
  (case F => k_asm)
  (case N => walk_at "k_news")
  (case o => exact ⟨_, rfl⟩)
theorem most_never (w : World)  : MostC w (.never) := by
  intro v sub hv hok mean mg mb dp un gd cn cs a0 ccd cl0 outer A₀ base h₀ L m s Q E led B F X N hsub T hk hdp hu hret
  simp only [Nd.sz] at hdp hu
  revert X; k_fill; intro X
  replace hv := hv.mono hsub
  obtain ⟨a, rfl⟩ := hv.ref
  refine wpAny_call ?_
  k_dflt walk_at "k_enter"
  (try (with_reducible show wpAny _ _ _ _ _ _))
  (try k_fold)
  k_steps
  refine' hret _ [] _ _ ⟨rfl, ?o⟩ ordNil ?F ?N
  (case F => k_asm)
  (case N => walk_at "k_news")
  (case o => exact ⟨_, rfl⟩)
theorem most_chars (w : World) (f : Bool) : MostC w (.chars f) := by
  intro v sub hv hok mean mg mb dp un gd cn cs a0 ccd cl0 outer A₀ base h₀ L m s Q E led B F X N hsub T hk hdp hu hret
  simp only [Nd.sz] at hdp hu
  revert X; k_fill; intro X
  replace hv := hv.mono hsub
  obtain ⟨a, rfl⟩ := hv.ref
  have hv' := hv
  refine wpAny_call ?_
  k_dflt walk_at "k_enter"
  cases hv'
  all_goals k_steps
  all_goals (
  refine' hret _ [] _ _ ⟨rfl, ?o⟩ ordNil ?F ?N
  (case F => k_asm)
  (case N => walk_at "k_news")
  (case o => exact ⟨_, rfl⟩)
  )
theorem most_cat (w : World) (l r : Nd) (ihl : MostC w l) (ihr : MostC w r) : MostC w (.cat l r) := by
  intro v sub hv hok mean mg mb dp un gd cn cs a0 ccd cl0 outer A₀ base h₀ L m s Q E led B F X N hsub T hk hdp hu hret
  simp only [Nd.sz] at hdp hu
  revert X; k_fill; intro X
  replace hv := hv.mono hsub
  obtain ⟨a, rfl⟩ := hv.ref
  simp only [Nd.ok, Bool.and_eq_true] at hok
  have hv' := hv
  cases hv' with | cat hx hy hl hr =>
  have csp := spineCat w _ _ l r led hx hy hl hr (by simpa using hok.2)
  have hc : All2 (fun v o => Con w 517 [v] (60 * (l.sz + r.sz)) (1000 * (l.sz + r.sz)) led (lenOut o)) _ [mlen l, mlen r] := .cons ((ihl _ led hl hok.1.1).le (by omega) (by omega)) (.cons ((ihr _ led hr hok.1.2).le (by omega) (by omega)) .nil)
  have hsz : 1 ≤ l.sz := by cases l <;> simp only [Nd.sz] <;> omega
  refine wpAny_call ?_
  k_dflt walk_at "k_enter"
  (try (with_reducible show wpAny _ _ _ _ _ _))
  (try k_fold)
  k_steps
  refine' hret _ [] _ _ ⟨rfl, ?o⟩ ordNil ?F ?N
  (case F => k_asm)
  (case N => walk_at "k_news")
  (case o => assumption)
theorem most_alt (w : World) (l r : Nd) (ihl : MostC w l) (ihr : MostC w r) : MostC w (.alt l r) := by
  intro v sub hv hok mean mg mb dp un gd cn cs a0 ccd cl0 outer A₀ base h₀ L m s Q E led B F X N hsub T hk hdp hu hret
  simp only [Nd.sz] at hdp hu
  revert X; k_fill; intro X
  replace hv := hv.mono hsub
  obtain ⟨a, rfl⟩ := hv.ref
  simp only [Nd.ok, Bool.and_eq_true] at hok
  have hM9 : HoldMark := ⟨⟩
  have hv' := hv
  cases hv' with | alt hx hy hl hr =>
  have csp := spineAlt w _ _ l r led hx hy hl hr (by simpa using hok.2)
  have hc : All2 (fun v o => Con w 517 [v] (60 * (l.sz + r.sz)) (1000 * (l.sz + r.sz)) led (lenOut o)) _ [mlen l, mlen r] := .cons ((ihl _ led hl hok.1.1).le (by omega) (by omega)) (.cons ((ihr _ led hr hok.1.2).le (by omega) (by omega)) .nil)
  have hsz : 1 ≤ l.sz := by cases l <;> simp only [Nd.sz] <;> omega
  refine wpAny_call ?_
  k_dflt walk_at "k_enter"
  (try (with_reducible show wpAny _ _ _ _ _ _))
  (try k_fold)
  k_steps
  refine ⟨?_⟩
  refine For_invX g' ?_ (fun _ => rfl) (by passes_own)
  (try (with_reducible show wpAny _ _ _ _ _ _))
  (try k_fold)
  k_steps
  refine ⟨?_⟩
  have ho9 : ∀ q ∈ led, @Ne Nat q.1 D9 := fun q hq => l9 q hq _ (.head _)
  refine iterL (vs := [_, _]) (fun i m nx => nx = led ∧ Keeps [Str.ofString "part", Str.ofString "other", Str.ofString "length"] _ m ∧ ∃ x t, m (Str.ofString "length") = some (.int x t) ∧ altL ([mlen l, mlen r].take i) = some x)
    (by rfl) (by rfl) (by rfl) (by k_asm) (by k_asm) ho9 ⟨rfl, .refl, -1, _, rfl, rfl⟩ ?turn ?done
  (case turn =>
    intro i v m₁ nx h tk I oI hv3 hI ho hJ9 F1 N1
    (with_reducible show wpAny _ _ _ _ _ _)
    k_fold
    first | (refine' ex1 (hJ9) ?_; intro _ _ ) | (refine' and2 (hJ9) ?_; intro _ _ ) | (obtain ⟨_, _⟩ := hJ9)
    rename_i e9x406 r9x407
    try (clear hJ9)
    subst e9x406
    first | (refine' ex4 (r9x407) ?_; intro _ _ _ _ _ ) | (refine' ex3 (r9x407) ?_; intro _ _ _ h9e; walk_at "sp 2") | (refine' ex2 (r9x407) ?_; intro _ _ h9e; walk_at "sp 3") | (refine' ex1 (r9x407) ?_; intro _ h9e; walk_at "sp 4") | (refine' and4 (r9x407) ?_; intro _ _ _ h9e; walk_at "sp 2") | (refine' and3 (r9x407) ?_; intro _ _ h9e; walk_at "sp 3") | (refine' and2 (r9x407) ?_; intro _ h9e; walk_at "sp 4") | (obtain ⟨_, _, _, _, _⟩ := r9x407)
    rename_i hK x t e1 hS
    try (clear r9x407)
    obtain ⟨u', rfl⟩ := canon1 hK e1
    clear e1
    obtain ⟨o, ho', C⟩ := hc.get hv3
    cases o with
    | none =>
      (try (with_reducible show wpAny _ _ _ _ _ _))
      (try k_fold)
      k_steps
      refine ItPost.ret ?_
      (try (with_reducible show wpAny _ _ _ _ _ _))
      (try k_fold)
      k_steps
      refine' hret _ [] _ _ ⟨rfl, ?o⟩ ordNil ?F ?N
      (case F => k_asm)
      (case N => walk_at "k_news")
      (case o => (rw [show mlen (.alt l r) = none from altL_none ho']; exact rfl))
    | some y =>
      (try (with_reducible show wpAny _ _ _ _ _ _))
      (try k_fold)
      k_steps
      refine' CutI.mk ⟨_, _, _, _, rfl, ?F, ?N, ho, rfl, ?K, _, _, ?e1, altL_some hS ho'⟩
      (case F => k_asm)
      (case N => walk_at "k_news")
      (case K => walk_at "k_keeps")
      (case e1 => rfl))
  (case done =>
    intro m₁ nx h tk q9x413
    first | (refine' ex1 (q9x413) ?_; intro _ _ ) | (refine' and2 (q9x413) ?_; intro _ _ ) | (obtain ⟨_, _⟩ := q9x413)
    rename_i e9x414 r9x415
    try (clear q9x413)
    subst e9x414
    first | (refine' ex4 (r9x415) ?_; intro _ _ _ _ _ ) | (refine' ex3 (r9x415) ?_; intro _ _ _ h9e; walk_at "sp 2") | (refine' ex2 (r9x415) ?_; intro _ _ h9e; walk_at "sp 3") | (refine' ex1 (r9x415) ?_; intro _ h9e; walk_at "sp 4") | (refine' and4 (r9x415) ?_; intro _ _ _ h9e; walk_at "sp 2") | (refine' and3 (r9x415) ?_; intro _ _ h9e; walk_at "sp 3") | (refine' and2 (r9x415) ?_; intro _ h9e; walk_at "sp 4") | (obtain ⟨_, _, _, _, _⟩ := r9x415)
    rename_i hK x t e1 hS
    try (clear r9x415)
    intro F1 N1 ho
    obtain ⟨u', rfl⟩ := canon1 hK e1
    clear e1
    (try (with_reducible show wpAny _ _ _ _ _ _))
    (try k_fold)
    k_steps
    refine' hret _ [] _ _ ⟨rfl, ?o⟩ ordNil ?F ?N
    (case F => k_asm)
    (case N => walk_at "k_news")
    (case o => (rw [show mlen (.alt l r) = some x from hS]; exact ⟨_, rfl⟩)))
theorem most_star (w : World) (b : Nd) (ih : MostC w b) : MostC w (.star b) := by
  intro v sub hv hok mean mg mb dp un gd cn cs a0 ccd cl0 outer A₀ base h₀ L m s Q E led B F X N hsub T hk hdp hu hret
  simp only [Nd.sz] at hdp hu
  revert X; k_fill; intro X
  replace hv := hv.mono hsub
  obtain ⟨a, rfl⟩ := hv.ref
  simp only [Nd.ok, Bool.and_eq_true] at hok
  have hv' := hv
  cases hv' with | star hx hy hl =>
  have hm := ih _ led hl hok.1
  have hlp : ∀ vl, LenV (mlen b) vl → Con w 531 [.ref a, vl] 20 300 led (lenOut (loopLen (loopLow (.star b)) (loopHigh (.star b)) (mlen b))) := fun vl h => loopC w _ vl _ _ _ hv rfl h (by intro h e; cases e <;> decide) (by intro x e; rw [e] at hok; simpa using hok.2)
  obtain ⟨xb, rfl⟩ := hl.ref
  refine wpAny_call ?_
  k_dflt walk_at "k_enter"
  (try (with_reducible show wpAny _ _ _ _ _ _))
  (try k_fold)
  k_steps
  refine' hret _ [] _ _ ⟨rfl, ?o⟩ ordNil ?F ?N
  (case F => k_asm)
  (case N => walk_at "k_news")
  (case o => assumption)
theorem most_plus (w : World) (b : Nd) (ih : MostC w b) : MostC w (.plus b) := by
  intro v sub hv hok mean mg mb dp un gd cn cs a0 ccd cl0 outer A₀ base h₀ L m s Q E led B F X N hsub T hk hdp hu hret
  simp only [Nd.sz] at hdp hu
  revert X; k_fill; intro X
  replace hv := hv.mono hsub
  obtain ⟨a, rfl⟩ := hv.ref
  simp only [Nd.ok, Bool.and_eq_true] at hok
  have hv' := hv
  cases hv' with | plus hx hy hl =>
  have hm := ih _ led hl hok.1
  have hlp : ∀ vl, LenV (mlen b) vl → Con w 531 [.ref a, vl] 20 300 led (lenOut (loopLen (loopLow (.plus b)) (loopHigh (.plus b)) (mlen b))) := fun vl h => loopC w _ vl _ _ _ hv rfl h (by intro h e; cases e <;> decide) (by intro x e; rw [e] at hok; simpa using hok.2)
  obtain ⟨xb, rfl⟩ := hl.ref
  refine wpAny_call ?_
  k_dflt walk_at "k_enter"
  (try (with_reducible show wpAny _ _ _ _ _ _))
  (try k_fold)
  k_steps
  refine' hret _ [] _ _ ⟨rfl, ?o⟩ ordNil ?F ?N
  (case F => k_asm)
  (case N => walk_at "k_news")
  (case o => assumption)
theorem most_opt (w : World) (b : Nd) (ih : MostC w b) : MostC w (.opt b) := by
  intro v sub hv hok mean mg mb dp un gd cn cs a0 ccd cl0 outer A₀ base h₀ L m s Q E led B F X N hsub T hk hdp hu hret
  simp only [Nd.sz] at hdp hu
  revert X; k_fill; intro X
  replace hv := hv.mono hsub
  obtain ⟨a, rfl⟩ := hv.ref
  simp only [Nd.ok, Bool.and_eq_true] at hok
  have hv' := hv
  cases hv' with | opt hx hy hl =>
  have hm := ih _ led hl hok.1
  have hlp : ∀ vl, LenV (mlen b) vl → Con w 531 [.ref a, vl] 20 300 led (lenOut (loopLen (loopLow (.opt b)) (loopHigh (.opt b)) (mlen b))) := fun vl h => loopC w _ vl _ _ _ hv rfl h (by intro h e; cases e <;> decide) (by intro x e; rw [e] at hok; simpa using hok.2)
  obtain ⟨xb, rfl⟩ := hl.ref
  refine wpAny_call ?_
  k_dflt walk_at "k_enter"
  (try (with_reducible show wpAny _ _ _ _ _ _))
  (try k_fold)
  k_steps
  refine' hret _ [] _ _ ⟨rfl, ?o⟩ ordNil ?F ?N
  (case F => k_asm)
  (case N => walk_at "k_news")
  (case o => assumption)
theorem most_rep (w : World) (b : Nd) (h : Nat) (ih : MostC w b) : MostC w (.rep b h) := by
  intro v sub hv hok mean mg mb dp un gd cn cs a0 ccd cl0 outer A₀ base h₀ L m s Q E led B F X N hsub T hk hdp hu hret
  simp only [Nd.sz] at hdp hu
  revert X; k_fill; intro X
  replace hv := hv.mono hsub
  obtain ⟨a, rfl⟩ := hv.ref
  simp only [Nd.ok, Bool.and_eq_true] at hok
  have hv' := hv
  cases hv' with | rep hx hy hl =>
  have hm := ih _ led hl hok.1.1
  have hlp : ∀ vl, LenV (mlen b) vl → Con w 531 [.ref a, vl] 20 300 led (lenOut (loopLen (loopLow (.rep b h)) (loopHigh (.rep b h)) (mlen b))) := fun vl h => loopC w _ vl _ _ _ hv rfl h (by intro h e; cases e; simpa using hok.1.2) (by intro x e; rw [e] at hok; simpa using hok.2)
  obtain ⟨xb, rfl⟩ := hl.ref
  refine wpAny_call ?_
  k_dflt walk_at "k_enter"
  (try (with_reducible show wpAny _ _ _ _ _ _))
  (try k_fold)
  k_steps
  refine' hret _ [] _ _ ⟨rfl, ?o⟩ ordNil ?F ?N
  (case F => k_asm)
  (case N => walk_at "k_news")
  (case o => assumption)
theorem mostC (w : World) (d : Nd) : MostC w d := by
  induction d with
  | empty => exact most_empty w
  | never => exact most_never w
  | chars f => exact most_chars w f
  | cat l r i j => exact most_cat w l r i j
  | alt l r i j => exact most_alt w l r i j
  | star b i => exact most_star w b i
  | plus b i => exact most_plus w b i
  | opt b i => exact most_opt w b i
  | rep b h i => exact most_rep w b h i

def TrailAt (led : Led) (v : Value) : Option Nd → Prop
  | none => v = .none
  | some d => NodeAt led v d ∧ d.ok = true ∧ d.sz ≤ 6
def canM (b : Nd) (tr : Option Nd) : Bool := (match mlen b with | none => true | some x => decide (¬ x ≤ 0)) && (match tr with | none => true | some d => decide (mlen d ≠ some (-1)))
/-- a pattern, of which can_match tells `good` -/
def PatAt (led : Led) (v : Value) (good : Bool) : Prop := ∃ x d n sl h t h2 t2 h3 t3 vb bg vt b tr, v = .ref x ∧ (x, (⟨.ref 506, some d, .plain, sl⟩ : Obj)) ∈ led ∧
  (d, dictOf [⟨h, .str (Str.ofString "body") t, vb⟩, ⟨h2, .str (Str.ofString "begins") t2, .bool bg⟩, ⟨h3, .str (Str.ofString "trail") t3, vt⟩] n) ∈ led ∧ NodeAt led vb b ∧ b.ok = true ∧ b.sz ≤ 6 ∧ TrailAt led vt tr ∧ canM b tr = good
theorem TrailAt.mono {led led' : Led} (hs : ∀ p ∈ led, p ∈ led') {v : Value} {tr : Option Nd} (h : TrailAt led v tr) : TrailAt led' v tr := by
  cases tr with
  | none => exact h
  | some d => exact ⟨h.1.mono hs, h.2⟩
theorem PatAt.mono {led led' : Led} (hs : ∀ p ∈ led, p ∈ led') {v : Value} {g : Bool} (h : PatAt led v g) : PatAt led' v g := by
  first | (refine' ex12 (h) ?_; intro _ _ _ _ _ _ _ _ _ _ _ _ h9e; walk_at "sp 11") | (refine' ex8 (h) ?_; intro _ _ _ _ _ _ _ _ h9e; walk_at "sp 15") | (refine' ex6 (h) ?_; intro _ _ _ _ _ _ h9e; walk_at "sp 17") | (refine' ex4 (h) ?_; intro _ _ _ _ h9e; walk_at "sp 19") | (refine' ex3 (h) ?_; intro _ _ _ h9e; walk_at "sp 20") | (refine' ex2 (h) ?_; intro _ _ h9e; walk_at "sp 21") | (refine' ex1 (h) ?_; intro _ h9e; walk_at "sp 22") | (refine' and6 (h) ?_; intro _ _ _ _ _ h9e; walk_at "sp 18") | (refine' and4 (h) ?_; intro _ _ _ h9e; walk_at "sp 20") | (refine' and3 (h) ?_; intro _ _ h9e; walk_at "sp 21") | (refine' and2 (h) ?_; intro _ h9e; walk_at "sp 22") | (obtain ⟨_, _, _, _, _, _, _, _, _, _, _, _, _, _, _, _, _, _, _, _, _, _, _⟩ := h)
  rename_i x d n sl h1 t h2 t2 h3 t3 vb bg vt b tr e m1 m2 n1 o1 s1 t1 c
  try (clear h)
  exact ⟨x, d, n, sl, h1, t, h2, t2, h3, t3, vb, bg, vt, b, tr, e, hs _ m1, hs _ m2, n1.mono hs, o1, s1, t1.mono hs, c⟩
theorem words_canm_1 : True := by
  k_with "con" => (refine Con.mono (hmb _ (by assumption)) ?_; walk_at "my sub")
  trivial
theorem canMatchC (w : World) (v : Value) (good : Bool) (sub : Led) (hv : PatAt sub v good) : Con w 552 [v] 400 7000 sub (fun r nw _ => nw = [] ∧ r = .bool good) := by
  intro mean mg mb dp un gd cn cs a0 ccd cl0 outer A₀ base h₀ L m s Q E led B F X N hsub T hk hdp hu hret
  revert X; k_fill; intro X
  first | (refine' ex12 (hv.mono hsub) ?_; intro _ _ _ _ _ _ _ _ _ _ _ _ h9e; walk_at "sp 5") | (refine' ex8 (hv.mono hsub) ?_; intro _ _ _ _ _ _ _ _ h9e; walk_at "sp 9") | (refine' ex6 (hv.mono hsub) ?_; intro _ _ _ _ _ _ h9e; walk_at "sp 11") | (refine' ex4 (hv.mono hsub) ?_; intro _ _ _ _ h9e; walk_at "sp 13") | (refine' ex3 (hv.mono hsub) ?_; intro _ _ _ h9e; walk_at "sp 14") | (refine' ex2 (hv.mono hsub) ?_; intro _ _ h9e; walk_at "sp 15") | (refine' ex1 (hv.mono hsub) ?_; intro _ h9e; walk_at "sp 16") | (refine' and6 (hv.mono hsub) ?_; intro _ _ _ _ _ h9e; walk_at "sp 12") | (refine' and4 (hv.mono hsub) ?_; intro _ _ _ h9e; walk_at "sp 14") | (refine' and3 (hv.mono hsub) ?_; intro _ _ h9e; walk_at "sp 15") | (refine' and2 (hv.mono hsub) ?_; intro _ h9e; walk_at "sp 16") | (obtain ⟨_, _, _, _, _, _, _, _, _, _, _, _, _, _, _, _, _⟩ := hv.mono hsub)
  rename_i x d n sl h1 t h2 t2 h3 t3 vb bg vt b tr e9x459 r9x460
  subst e9x459
  first | (refine' ex6 (r9x460) ?_; intro _ _ _ _ _ _ _ ) | (refine' ex4 (r9x460) ?_; intro _ _ _ _ h9e; walk_at "sp 3") | (refine' ex3 (r9x460) ?_; intro _ _ _ h9e; walk_at "sp 4") | (refine' ex2 (r9x460) ?_; intro _ _ h9e; walk_at "sp 5") | (refine' ex1 (r9x460) ?_; intro _ h9e; walk_at "sp 6") | (refine' and6 (r9x460) ?_; intro _ _ _ _ _ h9e; walk_at "sp 2") | (refine' and4 (r9x460) ?_; intro _ _ _ h9e; walk_at "sp 4") | (refine' and3 (r9x460) ?_; intro _ _ h9e; walk_at "sp 5") | (refine' and2 (r9x460) ?_; intro _ h9e; walk_at "sp 6") | (obtain ⟨_, _, _, _, _, _, _⟩ := r9x460)
  rename_i m1 m2 n1 o1 s1 t1 c
  try (clear r9x460)
  have cb := (mostC w b vb led n1 o1).le (D' := 360) (U' := 6000) (by omega) (by omega)
  obtain ⟨xb, rfl⟩ := n1.ref
  clear hv
  cases tr with
  | none =>
    obtain rfl : vt = .none := t1
    cases e : mlen b with
    | none =>
      rw [e] at cb
      refine wpAny_call ?_
      k_dflt walk_at "k_enter"
      (try (with_reducible show wpAny _ _ _ _ _ _))
      (try k_fold)
      k_steps
      all_goals (
        refine' hret _ [] _ _ ⟨rfl, ?o⟩ ordNil ?F ?N
        (case F => k_asm)
        (case N => walk_at "k_news")
        (case o => (rw [← c]; first | (simp [canM, e]; done) | (simp [canM, e]; omega) | (refine congrArg Value.bool (Bool.eq_iff_iff.mpr ?_); simp [canM, e, e2]; done) | (refine congrArg Value.bool (Bool.eq_iff_iff.mpr ?_); simp [canM, e, e2]; omega))))
    | some y =>
      rw [e] at cb
      refine wpAny_call ?_
      k_dflt walk_at "k_enter"
      (try (with_reducible show wpAny _ _ _ _ _ _))
      (try k_fold)
      k_steps
      all_goals (
        refine' hret _ [] _ _ ⟨rfl, ?o⟩ ordNil ?F ?N
        (case F => k_asm)
        (case N => walk_at "k_news")
        (case o => (rw [← c]; first | (simp [canM, e]; done) | (simp [canM, e]; omega) | (refine congrArg Value.bool (Bool.eq_iff_iff.mpr ?_); simp [canM, e, e2]; done) | (refine congrArg Value.bool (Bool.eq_iff_iff.mpr ?_); simp [canM, e, e2]; omega))))
  | some d =>
    have ct := (mostC w d vt led t1.1 t1.2.1).le (D' := 360) (U' := 6000) (by have := t1.2.2; omega) (by have := t1.2.2; omega)
    obtain ⟨xt, rfl⟩ := t1.1.ref
    cases e : mlen b <;> cases e2 : mlen d <;> rw [e] at cb <;> rw [e2] at ct
    all_goals (
      refine wpAny_call ?_
      k_dflt walk_at "k_enter"
      (try (with_reducible show wpAny _ _ _ _ _ _))
      (try k_fold)
      k_steps)
    all_goals (
        refine' hret _ [] _ _ ⟨rfl, ?o⟩ ordNil ?F ?N
        (case F => k_asm)
        (case N => walk_at "k_news")
        (case o => (rw [← c]; first | (simp [canM, e, e2]; done) | (simp [canM, e, e2]; omega) | (refine congrArg Value.bool (Bool.eq_iff_iff.mpr ?_); simp [canM, e, e2]; done) | (refine congrArg Value.bool (Bool.eq_iff_iff.mpr ?_); simp [canM, e, e2]; omega))))

def titleN (p : Nat) : Str := [Str.ofString "INITIAL", Str.ofString "A", Str.ofString "B", Str.ofString "C_3"].getD p (Str.ofString "")
def StepW (wd : Str) (vw : Value) : Option Nat → Prop
  | some g => (wd = Str.ofString "begin" ∨ wd = Str.ofString "push") ∧ ∃ t, vw = .str (titleN g) t
  | none => wd = Str.ofString "skip" ∧ vw = .none
def StepAt (led : Led) (v : Value) (o : Option Nat) : Prop := ∃ x d n sl h t wd t2 h2 t3 vw, v = .ref x ∧ (x, (⟨.ref 589, some d, .plain, sl⟩ : Obj)) ∈ led ∧
  (d, dictOf [⟨h, .str (Str.ofString "word") t, .str wd t2⟩, ⟨h2, .str (Str.ofString "worth") t3, vw⟩] n) ∈ led ∧ StepW wd vw o
def StepsAt (led : Led) (v : Value) (goals : List Nat) : Prop := ∃ a vs k os, v = .ref a ∧ (a, listOf vs.toArray k) ∈ led ∧ All2 (StepAt led) vs os ∧ os.filterMap id = goals ∧ vs.length < 100
def PvAt (led : Led) (v : Value) : Srt → Prop
  | .endS => v = .none
  | .good => PatAt led v true
  | .bad => PatAt led v false
def RuleAt (led : Led) (v : Value) (i : Nat) (r : Row) : Prop := ∃ x d n sl h1 t1 u1 h2 t2 pl h3 t3 pv h4 t4 st h5 t5 u5, v = .ref x ∧ (x, (⟨.ref 650, some d, .plain, sl⟩ : Obj)) ∈ led ∧
  (d, dictOf [⟨h1, .str (Str.ofString "number") t1, .int (i : Int) u1⟩, ⟨h2, .str (Str.ofString "conditions") t2, .ref pl⟩, ⟨h3, .str (Str.ofString "pattern") t3, pv⟩, ⟨h4, .str (Str.ofString "steps") t4, st⟩, ⟨h5, .str (Str.ofString "line") t5, .int (10 * (i : Int) + 10) u5⟩] n) ∈ led ∧
  IntsT led pl r.places ∧ PvAt led pv r.sort ∧ StepsAt led st r.goals
structure RulesAt (led : Led) (a : Addr) (vs : List Value) (k : Nat) (rs : List Row) : Prop where
  mem : (a, listOf vs.toArray k) ∈ led
  len : vs.length = rs.length
  lt : rs.length < 100
  at_ : ∀ i r, rs[i]? = some r → ∃ v, vs[i]? = some v ∧ RuleAt led v i r
structure CondsAt (led : Led) (a : Addr) (vs : List Value) (k : Nat) (many : Nat) : Prop where
  mem : (a, listOf vs.toArray k) ∈ led
  len : vs.length = many
  at_ : ∀ i, i < many → ∃ x kx t b, vs[i]? = some (.ref x) ∧ (x, tupO #[.str (titleN i) t, .bool b] kx) ∈ led
structure FileAt (led : Led) (f : Addr) (cl : Addr) (cvs : List Value) (ck : Nat) (rl : Addr) (rvs : List Value) (rk : Nat) (many : Nat) (rs : List Row) : Prop where
  inst : ∃ d n sl h1 t1 df h2 t2 h3 t3 h4 t4 h5 t5 u5, (f, (⟨.ref 707, some d, .plain, sl⟩ : Obj)) ∈ led ∧
    (d, dictOf [⟨h1, .str (Str.ofString "definitions") t1, df⟩, ⟨h2, .str (Str.ofString "conditions") t2, .ref cl⟩, ⟨h3, .str (Str.ofString "rules") t3, .ref rl⟩, ⟨h4, .str (Str.ofString "has_default") t4, .bool true⟩, ⟨h5, .str (Str.ofString "tail") t5, .str (Str.ofString "") u5⟩] n) ∈ led
  conds : CondsAt led cl cvs ck many
  rules : RulesAt led rl rvs rk rs
theorem StepAt.mono {led led' : Led} (hs : ∀ p ∈ led, p ∈ led') {v : Value} {o : Option Nat} (h : StepAt led v o) : StepAt led' v o := by
  first | (refine' ex12 (h) ?_; intro _ _ _ _ _ _ _ _ _ _ _ _ h9e; walk_at "sp 3") | (refine' ex8 (h) ?_; intro _ _ _ _ _ _ _ _ h9e; walk_at "sp 7") | (refine' ex6 (h) ?_; intro _ _ _ _ _ _ h9e; walk_at "sp 9") | (refine' ex4 (h) ?_; intro _ _ _ _ h9e; walk_at "sp 11") | (refine' ex3 (h) ?_; intro _ _ _ h9e; walk_at "sp 12") | (refine' ex2 (h) ?_; intro _ _ h9e; walk_at "sp 13") | (refine' ex1 (h) ?_; intro _ h9e; walk_at "sp 14") | (refine' and6 (h) ?_; intro _ _ _ _ _ h9e; walk_at "sp 10") | (refine' and4 (h) ?_; intro _ _ _ h9e; walk_at "sp 12") | (refine' and3 (h) ?_; intro _ _ h9e; walk_at "sp 13") | (refine' and2 (h) ?_; intro _ h9e; walk_at "sp 14") | (obtain ⟨_, _, _, _, _, _, _, _, _, _, _, _, _, _, _⟩ := h)
  rename_i x d n sl h1 t wd t2 h2 t3 vw e m1 m2 q
  try (clear h)
  exact ⟨x, d, n, sl, h1, t, wd, t2, h2, t3, vw, e, hs _ m1, hs _ m2, q⟩
theorem StepsAt.mono {led led' : Led} (hs : ∀ p ∈ led, p ∈ led') {v : Value} {gs : List Nat} (h : StepsAt led v gs) : StepsAt led' v gs := by
  first | (refine' ex8 (h) ?_; intro _ _ _ _ _ _ _ _ _ ) | (refine' ex6 (h) ?_; intro _ _ _ _ _ _ h9e; walk_at "sp 3") | (refine' ex4 (h) ?_; intro _ _ _ _ h9e; walk_at "sp 5") | (refine' ex3 (h) ?_; intro _ _ _ h9e; walk_at "sp 6") | (refine' ex2 (h) ?_; intro _ _ h9e; walk_at "sp 7") | (refine' ex1 (h) ?_; intro _ h9e; walk_at "sp 8") | (refine' and6 (h) ?_; intro _ _ _ _ _ h9e; walk_at "sp 4") | (refine' and4 (h) ?_; intro _ _ _ h9e; walk_at "sp 6") | (refine' and3 (h) ?_; intro _ _ h9e; walk_at "sp 7") | (refine' and2 (h) ?_; intro _ h9e; walk_at "sp 8") | (obtain ⟨_, _, _, _, _, _, _, _, _⟩ := h)
  rename_i a vs k os e m q f l
  try (clear h)
  exact ⟨a, vs, k, os, e, hs _ m, q.imp fun _ _ => StepAt.mono hs, f, l⟩
theorem PvAt.mono {led led' : Led} (hs : ∀ p ∈ led, p ∈ led') {v : Value} {s : Srt} (h : PvAt led v s) : PvAt led' v s := by
  cases s with
  | endS => exact h
  | good => exact PatAt.mono hs h
  | bad => exact PatAt.mono hs h
theorem RuleAt.mono {led led' : Led} (hs : ∀ p ∈ led, p ∈ led') {v : Value} {i : Nat} {r : Row} (h : RuleAt led v i r) : RuleAt led' v i r := by
  first | (refine' ex12 (h) ?_; intro _ _ _ _ _ _ _ _ _ _ _ _ h9e; walk_at "sp 13") | (refine' ex8 (h) ?_; intro _ _ _ _ _ _ _ _ h9e; walk_at "sp 17") | (refine' ex6 (h) ?_; intro _ _ _ _ _ _ h9e; walk_at "sp 19") | (refine' ex4 (h) ?_; intro _ _ _ _ h9e; walk_at "sp 21") | (refine' ex3 (h) ?_; intro _ _ _ h9e; walk_at "sp 22") | (refine' ex2 (h) ?_; intro _ _ h9e; walk_at "sp 23") | (refine' ex1 (h) ?_; intro _ h9e; walk_at "sp 24") | (refine' and6 (h) ?_; intro _ _ _ _ _ h9e; walk_at "sp 20") | (refine' and4 (h) ?_; intro _ _ _ h9e; walk_at "sp 22") | (refine' and3 (h) ?_; intro _ _ h9e; walk_at "sp 23") | (refine' and2 (h) ?_; intro _ h9e; walk_at "sp 24") | (obtain ⟨_, _, _, _, _, _, _, _, _, _, _, _, _, _, _, _, _, _, _, _, _, _, _, _, _⟩ := h)
  rename_i x d n sl h1 t1 u1 h2 t2 pl h3 t3 pv h4 t4 st h5 t5 u5 e m1 m2 i1 p1 s1
  try (clear h)
  exact ⟨x, d, n, sl, h1, t1, u1, h2, t2, pl, h3, t3, pv, h4, t4, st, h5, t5, u5, e, hs _ m1, hs _ m2, i1.mono hs, p1.mono hs, s1.mono hs⟩
theorem RulesAt.mono {led led' : Led} (hs : ∀ p ∈ led, p ∈ led') {a : Addr} {vs : List Value} {k : Nat} {rs : List Row} (h : RulesAt led a vs k rs) : RulesAt led' a vs k rs :=
  ⟨hs _ h.mem, h.len, h.lt, fun i r e => let ⟨v, q, z⟩ := h.at_ i r e; ⟨v, q, z.mono hs⟩⟩
theorem CondsAt.mono {led led' : Led} (hs : ∀ p ∈ led, p ∈ led') {a : Addr} {vs : List Value} {k many : Nat} (h : CondsAt led a vs k many) : CondsAt led' a vs k many :=
  ⟨hs _ h.mem, h.len, fun i e => let ⟨x, kx, t, b, q, z⟩ := h.at_ i e; ⟨x, kx, t, b, q, hs _ z⟩⟩
theorem FileAt.mono {led led' : Led} (hs : ∀ p ∈ led, p ∈ led') {f cl : Addr} {cvs : List Value} {ck : Nat} {rl : Addr} {rvs : List Value} {rk many : Nat} {rs : List Row} (h : FileAt led f cl cvs ck rl rvs rk many rs) : FileAt led' f cl cvs ck rl rvs rk many rs := by
  refine ⟨?_, h.conds.mono hs, h.rules.mono hs⟩
  have hx := h.inst
  first | (refine' ex12 (hx) ?_; intro _ _ _ _ _ _ _ _ _ _ _ _ h9e; walk_at "sp 5") | (refine' ex8 (hx) ?_; intro _ _ _ _ _ _ _ _ h9e; walk_at "sp 9") | (refine' ex6 (hx) ?_; intro _ _ _ _ _ _ h9e; walk_at "sp 11") | (refine' ex4 (hx) ?_; intro _ _ _ _ h9e; walk_at "sp 13") | (refine' ex3 (hx) ?_; intro _ _ _ h9e; walk_at "sp 14") | (refine' ex2 (hx) ?_; intro _ _ h9e; walk_at "sp 15") | (refine' ex1 (hx) ?_; intro _ h9e; walk_at "sp 16") | (refine' and6 (hx) ?_; intro _ _ _ _ _ h9e; walk_at "sp 12") | (refine' and4 (hx) ?_; intro _ _ _ h9e; walk_at "sp 14") | (refine' and3 (hx) ?_; intro _ _ h9e; walk_at "sp 15") | (refine' and2 (hx) ?_; intro _ h9e; walk_at "sp 16") | (obtain ⟨_, _, _, _, _, _, _, _, _, _, _, _, _, _, _, _, _⟩ := hx)
  rename_i d n sl h1 t1 df h2 t2 h3 t3 h4 t4 h5 t5 u5 a b
  try (clear hx)
  exact ⟨d, n, sl, h1, t1, df, h2, t2, h3, t3, h4, t4, h5, t5, u5, hs _ a, hs _ b⟩
theorem PatAt.ref {led : Led} {v : Value} {g : Bool} (h : PatAt led v g) : ∃ x, v = .ref x := by
  first | (refine' ex12 (h) ?_; intro _ _ _ _ _ _ _ _ _ _ _ _ h9e; walk_at "sp 11") | (refine' ex8 (h) ?_; intro _ _ _ _ _ _ _ _ h9e; walk_at "sp 15") | (refine' ex6 (h) ?_; intro _ _ _ _ _ _ h9e; walk_at "sp 17") | (refine' ex4 (h) ?_; intro _ _ _ _ h9e; walk_at "sp 19") | (refine' ex3 (h) ?_; intro _ _ _ h9e; walk_at "sp 20") | (refine' ex2 (h) ?_; intro _ _ h9e; walk_at "sp 21") | (refine' ex1 (h) ?_; intro _ h9e; walk_at "sp 22") | (refine' and6 (h) ?_; intro _ _ _ _ _ h9e; walk_at "sp 18") | (refine' and4 (h) ?_; intro _ _ _ h9e; walk_at "sp 20") | (refine' and3 (h) ?_; intro _ _ h9e; walk_at "sp 21") | (refine' and2 (h) ?_; intro _ h9e; walk_at "sp 22") | (obtain ⟨_, _, _, _, _, _, _, _, _, _, _, _, _, _, _, _, _, _, _, _, _, _, _⟩ := h)
  rename_i x d n sl h1 t h2 t2 h3 t3 vb bg vt b tr e m1 m2 n1 o1 s1 t1 c
  try (clear h)
  exact ⟨x, e⟩
theorem isEndC (w : World) (v : Value) (i : Nat) (r : Row) (sub : Led) (hv : RuleAt sub v i r) : Con w 614 [v] 20 100 sub (fun x nw _ => nw = [] ∧ x = .bool (r.sort == .endS)) := by
  intro mean mg mb dp un gd cn cs a0 ccd cl0 outer A₀ base h₀ L m s Q E led B F X N hsub T hk hdp hu hret
  revert X; k_fill; intro X
  first | (refine' ex12 (hv.mono hsub) ?_; intro _ _ _ _ _ _ _ _ _ _ _ _ h9e; walk_at "sp 9") | (refine' ex8 (hv.mono hsub) ?_; intro _ _ _ _ _ _ _ _ h9e; walk_at "sp 13") | (refine' ex6 (hv.mono hsub) ?_; intro _ _ _ _ _ _ h9e; walk_at "sp 15") | (refine' ex4 (hv.mono hsub) ?_; intro _ _ _ _ h9e; walk_at "sp 17") | (refine' ex3 (hv.mono hsub) ?_; intro _ _ _ h9e; walk_at "sp 18") | (refine' ex2 (hv.mono hsub) ?_; intro _ _ h9e; walk_at "sp 19") | (refine' ex1 (hv.mono hsub) ?_; intro _ h9e; walk_at "sp 20") | (refine' and6 (hv.mono hsub) ?_; intro _ _ _ _ _ h9e; walk_at "sp 16") | (refine' and4 (hv.mono hsub) ?_; intro _ _ _ h9e; walk_at "sp 18") | (refine' and3 (hv.mono hsub) ?_; intro _ _ h9e; walk_at "sp 19") | (refine' and2 (hv.mono hsub) ?_; intro _ h9e; walk_at "sp 20") | (obtain ⟨_, _, _, _, _, _, _, _, _, _, _, _, _, _, _, _, _, _, _, _, _⟩ := hv.mono hsub)
  rename_i x d n sl h1 t1 u1 h2 t2 pl h3 t3 pv h4 t4 st h5 t5 u5 e9x576 r9x577
  subst e9x576
  first | (refine' ex4 (r9x577) ?_; intro _ _ _ _ _ ) | (refine' ex3 (r9x577) ?_; intro _ _ _ h9e; walk_at "sp 2") | (refine' ex2 (r9x577) ?_; intro _ _ h9e; walk_at "sp 3") | (refine' ex1 (r9x577) ?_; intro _ h9e; walk_at "sp 4") | (refine' and4 (r9x577) ?_; intro _ _ _ h9e; walk_at "sp 2") | (refine' and3 (r9x577) ?_; intro _ _ h9e; walk_at "sp 3") | (refine' and2 (r9x577) ?_; intro _ h9e; walk_at "sp 4") | (obtain ⟨_, _, _, _, _⟩ := r9x577)
  rename_i m1 m2 i1 p1 s1
  try (clear r9x577)
  cases e : r.sort with
  | endS =>
    rw [e] at p1
    obtain rfl : pv = .none := p1
    refine wpAny_call ?_
    k_dflt walk_at "k_enter"
    (try (with_reducible show wpAny _ _ _ _ _ _))
    (try k_fold)
    k_steps
    refine' hret _ [] _ _ ⟨rfl, ?o⟩ ordNil ?F ?N
    (case F => k_asm)
    (case N => walk_at "k_news")
    (case o => rw [e]; rfl)
  | good =>
    rw [e] at p1
    obtain ⟨xp, rfl⟩ := PatAt.ref p1
    refine wpAny_call ?_
    k_dflt walk_at "k_enter"
    (try (with_reducible show wpAny _ _ _ _ _ _))
    (try k_fold)
    k_steps
    refine' hret _ [] _ _ ⟨rfl, ?o⟩ ordNil ?F ?N
    (case F => k_asm)
    (case N => walk_at "k_news")
    (case o => rw [e]; rfl)
  | bad =>
    rw [e] at p1
    obtain ⟨xp, rfl⟩ := PatAt.ref p1
    refine wpAny_call ?_
    k_dflt walk_at "k_enter"
    (try (with_reducible show wpAny _ _ _ _ _ _))
    (try k_fold)
    k_steps
    refine' hret _ [] _ _ ⟨rfl, ?o⟩ ordNil ?F ?N
    (case F => k_asm)
    (case N => walk_at "k_news")
    (case o => rw [e]; rfl)
theorem isLiveC (w : World) (v : Value) (i : Nat) (r : Row) (c : Nat) (t : Tok) (sub : Led) (hv : RuleAt sub v i r) : Con w 621 [v, .int (c : Int) t] 20 100 sub (fun x nw _ => nw = [] ∧ x = .bool (r.places.contains c)) := by
  intro mean mg mb dp un gd cn cs a0 ccd cl0 outer A₀ base h₀ L m s Q E led B F X N hsub T hk hdp hu hret
  revert X; k_fill; intro X
  first | (refine' ex12 (hv.mono hsub) ?_; intro _ _ _ _ _ _ _ _ _ _ _ _ h9e; walk_at "sp 9") | (refine' ex8 (hv.mono hsub) ?_; intro _ _ _ _ _ _ _ _ h9e; walk_at "sp 13") | (refine' ex6 (hv.mono hsub) ?_; intro _ _ _ _ _ _ h9e; walk_at "sp 15") | (refine' ex4 (hv.mono hsub) ?_; intro _ _ _ _ h9e; walk_at "sp 17") | (refine' ex3 (hv.mono hsub) ?_; intro _ _ _ h9e; walk_at "sp 18") | (refine' ex2 (hv.mono hsub) ?_; intro _ _ h9e; walk_at "sp 19") | (refine' ex1 (hv.mono hsub) ?_; intro _ h9e; walk_at "sp 20") | (refine' and6 (hv.mono hsub) ?_; intro _ _ _ _ _ h9e; walk_at "sp 16") | (refine' and4 (hv.mono hsub) ?_; intro _ _ _ h9e; walk_at "sp 18") | (refine' and3 (hv.mono hsub) ?_; intro _ _ h9e; walk_at "sp 19") | (refine' and2 (hv.mono hsub) ?_; intro _ h9e; walk_at "sp 20") | (obtain ⟨_, _, _, _, _, _, _, _, _, _, _, _, _, _, _, _, _, _, _, _, _⟩ := hv.mono hsub)
  rename_i x d n sl h1 t1 u1 h2 t2 pl h3 t3 pv h4 t4 st h5 t5 u5 e9x602 r9x603
  subst e9x602
  first | (refine' ex4 (r9x603) ?_; intro _ _ _ _ _ ) | (refine' ex3 (r9x603) ?_; intro _ _ _ h9e; walk_at "sp 2") | (refine' ex2 (r9x603) ?_; intro _ _ h9e; walk_at "sp 3") | (refine' ex1 (r9x603) ?_; intro _ h9e; walk_at "sp 4") | (refine' and4 (r9x603) ?_; intro _ _ _ h9e; walk_at "sp 2") | (refine' and3 (r9x603) ?_; intro _ _ h9e; walk_at "sp 3") | (refine' and2 (r9x603) ?_; intro _ h9e; walk_at "sp 4") | (obtain ⟨_, _, _, _, _⟩ := r9x603)
  rename_i m1 m2 n9x606 p1 s1
  try (clear r9x603)
  first | (refine' ex4 (n9x606) ?_; intro _ _ _ _ _ ) | (refine' ex3 (n9x606) ?_; intro _ _ _ h9e; walk_at "sp 2") | (refine' ex2 (n9x606) ?_; intro _ _ h9e; walk_at "sp 3") | (refine' ex1 (n9x606) ?_; intro _ h9e; walk_at "sp 4") | (refine' and4 (n9x606) ?_; intro _ _ _ h9e; walk_at "sp 2") | (refine' and3 (n9x606) ?_; intro _ _ h9e; walk_at "sp 3") | (refine' and2 (n9x606) ?_; intro _ h9e; walk_at "sp 4") | (obtain ⟨_, _, _, _, _⟩ := n9x606)
  rename_i pvs kp hmp hip hpl
  try (clear n9x606)
  refine wpAny_call ?_
  k_dflt walk_at "k_enter"
  (try (with_reducible show wpAny _ _ _ _ _ _))
  (try k_fold)
  k_steps
  refine' hret _ [] _ _ ⟨rfl, ?o⟩ ordNil ?F ?N
  (case F => k_asm)
  (case N => walk_at "k_news")
  (case o => rfl)

theorem words_file2_1 : True := by
  k_with "exec For Name Attribute cons nil" => (k_here; (rename HoldMark => hM9); (with_reducible show wpAny _ _ (exec (PySem.Stmt.For _ _ _ _ _) _) _ _ _); refine held ?_)
  trivial
theorem titleN_inj : ∀ i g, i < 4 → g < 4 → (titleN i == titleN g) = true → i = g := by
  have h : ∀ i < 4, ∀ g < 4, (titleN i == titleN g) = true → i = g := by decide +kernel
  exact fun i g hi hg e => h i hi g hg e
theorem ItPostR.ret {h₀ : Heap} {L I : Addr} {oI : Obj} {J : (Str → Option Value) → Led → Prop} {s₁ s₂ : Shared} {Q : Flow → Shared → Prop} {v : Value} (h : Q (.ret v) s₂) : ItPostR h₀ L I oI J s₁ Q (.ret v) s₂ := h
theorem All2.append {α β : Type} {R : α → β → Prop} {as as' : List α} {bs bs' : List β} (h : All2 R as bs) (h' : All2 R as' bs') : All2 R (as ++ as') (bs ++ bs') := by
  induction h with
  | nil => exact h'
  | cons r _ ih => exact .cons r ih
def StrV (v : Value) (g : Nat) : Prop := ∃ t, v = .str (titleN g) t
theorem goalsC (w : World) (v : Value) (i : Nat) (r : Row) (sub : Led) (hv : RuleAt sub v i r) : Con w 640 [v] 20 200 sub (fun x nw _ => ∃ D k, x = .ref D ∧ ∃ vs, nw = [(D, listOf (List.toArray vs) k)] ∧ All2 StrV vs r.goals) := by
  intro mean mg mb dp un gd cn cs a0 ccd cl0 outer A₀ base h₀ L m s Q E led B F X N hsub T hk hdp hu hret
  revert X; k_fill; intro X
  first | (refine' ex12 (hv.mono hsub) ?_; intro _ _ _ _ _ _ _ _ _ _ _ _ h9e; walk_at "sp 9") | (refine' ex8 (hv.mono hsub) ?_; intro _ _ _ _ _ _ _ _ h9e; walk_at "sp 13") | (refine' ex6 (hv.mono hsub) ?_; intro _ _ _ _ _ _ h9e; walk_at "sp 15") | (refine' ex4 (hv.mono hsub) ?_; intro _ _ _ _ h9e; walk_at "sp 17") | (refine' ex3 (hv.mono hsub) ?_; intro _ _ _ h9e; walk_at "sp 18") | (refine' ex2 (hv.mono hsub) ?_; intro _ _ h9e; walk_at "sp 19") | (refine' ex1 (hv.mono hsub) ?_; intro _ h9e; walk_at "sp 20") | (refine' and6 (hv.mono hsub) ?_; intro _ _ _ _ _ h9e; walk_at "sp 16") | (refine' and4 (hv.mono hsub) ?_; intro _ _ _ h9e; walk_at "sp 18") | (refine' and3 (hv.mono hsub) ?_; intro _ _ h9e; walk_at "sp 19") | (refine' and2 (hv.mono hsub) ?_; intro _ h9e; walk_at "sp 20") | (obtain ⟨_, _, _, _, _, _, _, _, _, _, _, _, _, _, _, _, _, _, _, _, _⟩ := hv.mono hsub)
  rename_i x d n sl h1 t1 u1 h2 t2 pl h3 t3 pv h4 t4 st h5 t5 u5 e9x633 r9x634
  subst e9x633
  first | (refine' ex4 (r9x634) ?_; intro _ _ _ _ _ ) | (refine' ex3 (r9x634) ?_; intro _ _ _ h9e; walk_at "sp 2") | (refine' ex2 (r9x634) ?_; intro _ _ h9e; walk_at "sp 3") | (refine' ex1 (r9x634) ?_; intro _ h9e; walk_at "sp 4") | (refine' and4 (r9x634) ?_; intro _ _ _ h9e; walk_at "sp 2") | (refine' and3 (r9x634) ?_; intro _ _ h9e; walk_at "sp 3") | (refine' and2 (r9x634) ?_; intro _ h9e; walk_at "sp 4") | (obtain ⟨_, _, _, _, _⟩ := r9x634)
  rename_i m1 m2 i1 p1 n9x639
  try (clear r9x634)
  first | (refine' ex4 (n9x639) ?_; intro _ _ _ _ h9e; walk_at "sp 2") | (refine' ex3 (n9x639) ?_; intro _ _ _ h9e; walk_at "sp 3") | (refine' ex2 (n9x639) ?_; intro _ _ h9e; walk_at "sp 4") | (refine' ex1 (n9x639) ?_; intro _ h9e; walk_at "sp 5") | (refine' and6 (n9x639) ?_; intro _ _ _ _ _ _ ) | (refine' and4 (n9x639) ?_; intro _ _ _ h9e; walk_at "sp 3") | (refine' and3 (n9x639) ?_; intro _ _ h9e; walk_at "sp 4") | (refine' and2 (n9x639) ?_; intro _ h9e; walk_at "sp 5") | (obtain ⟨_, _, _, _, _, _⟩ := n9x639)
  rename_i ga gvs gk os e9x644 r9x645
  try (clear n9x639)
  subst e9x644
  first | (refine' ex3 (r9x645) ?_; intro _ _ _ _ ) | (refine' ex2 (r9x645) ?_; intro _ _ h9e; walk_at "sp 2") | (refine' ex1 (r9x645) ?_; intro _ h9e; walk_at "sp 3") | (refine' and4 (r9x645) ?_; intro _ _ _ _ ) | (refine' and3 (r9x645) ?_; intro _ _ h9e; walk_at "sp 2") | (refine' and2 (r9x645) ?_; intro _ h9e; walk_at "sp 3") | (obtain ⟨_, _, _, _⟩ := r9x645)
  rename_i hmg hall hos hgl
  try (clear r9x645)
  refine wpAny_call ?_
  k_dflt walk_at "k_enter"
  (try (with_reducible show wpAny _ _ _ _ _ _))
  (try k_fold)
  k_steps
  refine LCt.CompSrcT.ledger (by rfl) (by k_asm) (by k_asm) (by k_mem) (by rw [List.size_toArray, sizeLine_eq]; omega) ?_
  intro g2
  refine compTr (fun i ys => All2 StrV ys ((os.take i).filterMap id)) .nil ?_ ?_
  · intro i ys hi hI v I oI C oC D m₂ h tk E' hv hC hx F2 N2 off2 ne2
    have hv' : gvs[i]? = some v := by simpa using hv
    first | (refine' ex12 (hall.get hv') ?_; intro _ _ _ _ _ _ _ _ _ _ _ _ h9e; walk_at "sp 3") | (refine' ex8 (hall.get hv') ?_; intro _ _ _ _ _ _ _ _ h9e; walk_at "sp 7") | (refine' ex6 (hall.get hv') ?_; intro _ _ _ _ _ _ h9e; walk_at "sp 9") | (refine' ex4 (hall.get hv') ?_; intro _ _ _ _ h9e; walk_at "sp 11") | (refine' ex3 (hall.get hv') ?_; intro _ _ _ h9e; walk_at "sp 12") | (refine' ex2 (hall.get hv') ?_; intro _ _ h9e; walk_at "sp 13") | (refine' ex1 (hall.get hv') ?_; intro _ h9e; walk_at "sp 14") | (refine' and6 (hall.get hv') ?_; intro _ _ _ _ _ h9e; walk_at "sp 10") | (refine' and4 (hall.get hv') ?_; intro _ _ _ h9e; walk_at "sp 12") | (refine' and3 (hall.get hv') ?_; intro _ _ h9e; walk_at "sp 13") | (refine' and2 (hall.get hv') ?_; intro _ h9e; walk_at "sp 14") | (obtain ⟨_, _, _, _, _, _, _, _, _, _, _, _, _, _, _⟩ := hall.get hv')
    rename_i o ho xs ds ns sls hh tt wd tt2 hh2 tt3 vw e9x663 r9x664
    subst e9x663
    obtain ⟨ms1, ms2, hw⟩ := r9x664
    cases o with
    | none =>
      obtain ⟨rfl, rfl⟩ := hw
      (try (with_reducible show wpAny _ _ _ _ _ _))
      (try k_fold)
      k_steps
      refine' LCg.CompEnd.intro ?F ?N _ (fun _ h => h) off2 ?S ⟨rfl, ?I⟩
      (case F => k_asm)
      (case N => walk_at "k_news")
      (case S => exact Or.inr ⟨_, by k_mem, rfl, _, rfl⟩)
      (case I => (rw [List.take_add_one, ho]; simpa using hI))
    | some g =>
      obtain ⟨hwd, tg, rfl⟩ := hw
      have hI' : All2 StrV (ys ++ [.str (titleN g) tg]) ((os.take (i + 1)).filterMap id) := by
        rw [List.take_add_one, ho, List.filterMap_append]
        exact hI.append (.cons ⟨tg, rfl⟩ .nil)
      rcases hwd with rfl | rfl
      all_goals (
        (try (with_reducible show wpAny _ _ _ _ _ _))
        (try k_fold)
        k_steps
        refine' LCg.CompEnd.intro ?F ?N _ (fun _ h => h) off2 ?S ⟨rfl, hI'⟩
        (case F => k_asm)
        (case N => walk_at "k_news")
        (case S => exact Or.inr ⟨_, by k_mem, rfl, _, rfl⟩))
  · intro ys hI
    have hl : gvs.toArray.size = os.length := by rw [List.size_toArray, hall.length]
    rw [hl, List.take_length, hos] at hI
    unfold LCg.FinE
    intro D3 h3 tk3 F3 N3 o3
    dsimp only
    (try (with_reducible show wpAny _ _ _ _ _ _))
    (try k_fold)
    k_steps
    refine' hret _ [_] _ _ ⟨_, _, rfl, _, rfl, hI⟩ ?o ?F ?N
    (case F => k_asm)
    (case N => walk_at "k_news")
    (case o => walk_at "k_ord")
theorem condNumC (w : World) (f cl : Addr) (cvs : List Value) (ck : Nat) (rl : Addr) (rvs : List Value) (rk many : Nat) (rs : List Row) (g : Nat) (tg : Tok) (sub : Led) (hf : FileAt sub f cl cvs ck rl rvs rk many rs) (hg : g < many) (hm4 : many ≤ 4) :
    Con w 676 [.ref f, .str (titleN g) tg] 20 200 sub (fun x nw _ => nw = [] ∧ ∃ t, x = .int (g : Int) t) := by
  intro mean mg mb dp un gd cn cs a0 ccd cl0 outer A₀ base h₀ L m s Q E led B F X N hsub T hk hdp hu hret
  revert X; k_fill; intro X
  have hM9 : HoldMark := ⟨⟩
  first | (refine' ex2 (hf.mono hsub) ?_; intro _ _ _ ) | (refine' ex1 (hf.mono hsub) ?_; intro _ h9e; walk_at "sp 2") | (refine' and3 (hf.mono hsub) ?_; intro _ _ _ ) | (refine' and2 (hf.mono hsub) ?_; intro _ h9e; walk_at "sp 2") | (obtain ⟨_, _, _⟩ := hf.mono hsub)
  rename_i n9x665 n9x666 d9x667
  first | (refine' ex12 (n9x665) ?_; intro _ _ _ _ _ _ _ _ _ _ _ _ h9e; walk_at "sp 5") | (refine' ex8 (n9x665) ?_; intro _ _ _ _ _ _ _ _ h9e; walk_at "sp 9") | (refine' ex6 (n9x665) ?_; intro _ _ _ _ _ _ h9e; walk_at "sp 11") | (refine' ex4 (n9x665) ?_; intro _ _ _ _ h9e; walk_at "sp 13") | (refine' ex3 (n9x665) ?_; intro _ _ _ h9e; walk_at "sp 14") | (refine' ex2 (n9x665) ?_; intro _ _ h9e; walk_at "sp 15") | (refine' ex1 (n9x665) ?_; intro _ h9e; walk_at "sp 16") | (refine' and6 (n9x665) ?_; intro _ _ _ _ _ h9e; walk_at "sp 12") | (refine' and4 (n9x665) ?_; intro _ _ _ h9e; walk_at "sp 14") | (refine' and3 (n9x665) ?_; intro _ _ h9e; walk_at "sp 15") | (refine' and2 (n9x665) ?_; intro _ h9e; walk_at "sp 16") | (obtain ⟨_, _, _, _, _, _, _, _, _, _, _, _, _, _, _, _, _⟩ := n9x665)
  rename_i d n sl h1 t1 df h2 t2 h3 t3 h4 t4 h5 t5 u5 m1 m2
  try (clear n9x665)
  obtain ⟨hcm, hcl, hca⟩ := n9x666
  clear d9x667
  have hcz : cvs.toArray.size = many := by rw [List.size_toArray, hcl]
  refine wpAny_call ?_
  k_dflt walk_at "k_enter"
  (try (with_reducible show wpAny _ _ _ _ _ _))
  (try k_fold)
  k_steps
  refine ⟨?_⟩
  refine forRange (n := many) (by k_asm) (fun i m nx => nx = led ∧ Keeps [Str.ofString "number"] _ m ∧ i ≤ g) (by rfl) (by rfl) (fun _ => rfl) (by passes_own) ?hi (by rfl) (by omega) ⟨rfl, .refl, by omega⟩ ?turn ?done
  (case hi =>
    (try (with_reducible show wpAny _ _ _ _ _ _))
    (try k_fold)
    k_steps
    refine' ⟨_, _, _, _, _, _, rfl, rfl, ?R, ?F, ?N⟩
    (case R => assumption)
    (case F => k_asm)
    (case N => walk_at "k_news"))
  (case turn =>
    intro i tv m₁ nx h tk I oI hi ho hJ9 F1 N1
    (with_reducible show wpAny _ _ _ _ _ _)
    k_fold
    obtain ⟨rfl, hK, hig⟩ := hJ9
    obtain ⟨u', rfl⟩ := canon0 hK
    first | (refine' ex4 (hca i hi) ?_; intro _ _ _ _ h9e; walk_at "sp 2") | (refine' ex3 (hca i hi) ?_; intro _ _ _ h9e; walk_at "sp 3") | (refine' ex2 (hca i hi) ?_; intro _ _ h9e; walk_at "sp 4") | (refine' ex1 (hca i hi) ?_; intro _ h9e; walk_at "sp 5") | (refine' and6 (hca i hi) ?_; intro _ _ _ _ _ _ ) | (refine' and4 (hca i hi) ?_; intro _ _ _ h9e; walk_at "sp 3") | (refine' and3 (hca i hi) ?_; intro _ _ h9e; walk_at "sp 4") | (refine' and2 (hca i hi) ?_; intro _ h9e; walk_at "sp 5") | (obtain ⟨_, _, _, _, _, _⟩ := hca i hi)
    rename_i xc kx tc bc hcv hcm2
    (try (with_reducible show wpAny _ _ _ _ _ _))
    (try k_fold)
    k_steps
    · refine ItPostR.ret ?_
      have e := titleN_inj i g (by omega) (by omega) (by assumption)
      subst e
      (try (with_reducible show wpAny _ _ _ _ _ _))
      (try k_fold)
      k_steps
      refine' hret _ [] _ _ ⟨rfl, _, rfl⟩ ordNil ?F ?N
      (case F => k_asm)
      (case N => walk_at "k_news")
    · rename_i q9
      refine' CutI.mk ⟨_, _, _, _, rfl, ?F, ?N, ho, rfl, ?K, ?i⟩
      (case F => k_asm)
      (case N => walk_at "k_news")
      (case K => walk_at "k_keeps")
      (case i => (have : i ≠ g := by rintro rfl; simp at q9
                  omega)))
  (case done =>
    rintro m₁ nx h tk ⟨rfl, hK, hig⟩ F1 N1
    omega)

def endAt (rs : List Row) (c : Nat) : Option Nat := rs.findIdx? fun r => r.sort == .endS && r.places.contains c
def EndOut (rs : List Row) (rvs : List Value) (c : Nat) (v : Value) : Prop := match endAt rs c with
  | none => v = .none
  | some k => rvs[k]? = some v
theorem endAt_some {rs : List Row} {c i : Nat} {r : Row} (h : (rs.take i).all (fun r => !(r.sort == .endS && r.places.contains c)) = true) (hr : rs[i]? = some r) (h1 : (r.sort == .endS) = true) (h2 : r.places.contains c = true) : endAt rs c = some i := by
  unfold endAt
  rw [List.findIdx?_eq_some_iff_findIdx_eq]
  obtain ⟨hi, e⟩ := List.getElem?_eq_some_iff.mp hr
  refine ⟨hi, ?_⟩
  rw [List.findIdx_eq hi]
  refine ⟨by rw [e, h1, h2]; rfl, fun j hj => ?_⟩
  have := List.all_eq_true.mp h (rs[j]'(by omega)) (List.mem_iff_getElem.mpr ⟨j, by rw [List.length_take]; omega, by simp⟩)
  simpa [Classical.or_iff_not_imp_left] using this
theorem endAt_none {rs : List Row} {c n : Nat} (h : (rs.take n).all (fun r => !(r.sort == .endS && r.places.contains c)) = true) (hn : n = rs.length) : endAt rs c = none := by
  subst hn
  rw [List.take_length] at h
  unfold endAt
  rw [List.findIdx?_eq_none_iff]
  intro r hr
  have := List.all_eq_true.mp h r hr
  simpa [Classical.or_iff_not_imp_left] using this
theorem words_file3_1 : True := by
  k_with "con" => ((with_reducible refine' Con.mono (isEndC _ _ _ _ _ ?ca) ?sb); (case ca => assumption); (case sb => walk_at "my sub"))
  k_with "con" => ((with_reducible refine' Con.mono (isLiveC _ _ _ _ _ _ _ ?ca) ?sb); (case ca => assumption); (case sb => walk_at "my sub"))
  trivial
theorem endRuleC (w : World) (f cl : Addr) (cvs : List Value) (ck : Nat) (rl : Addr) (rvs : List Value) (rk many : Nat) (rs : List Row) (c : Nat) (tc : Tok) (sub : Led) (hf : FileAt sub f cl cvs ck rl rvs rk many rs) :
    Con w 697 [.ref f, .int (c : Int) tc] 40 300 sub (fun x nw _ => nw = [] ∧ EndOut rs rvs c x) := by
  intro mean mg mb dp un gd cn cs a0 ccd cl0 outer A₀ base h₀ L m s Q E led B F X N hsub T hk hdp hu hret
  revert X; k_fill; intro X
  have hM9 : HoldMark := ⟨⟩
  first | (refine' ex2 (hf.mono hsub) ?_; intro _ _ _ ) | (refine' ex1 (hf.mono hsub) ?_; intro _ h9e; walk_at "sp 2") | (refine' and3 (hf.mono hsub) ?_; intro _ _ _ ) | (refine' and2 (hf.mono hsub) ?_; intro _ h9e; walk_at "sp 2") | (obtain ⟨_, _, _⟩ := hf.mono hsub)
  rename_i n9x691 d9x692 n9x693
  first | (refine' ex12 (n9x691) ?_; intro _ _ _ _ _ _ _ _ _ _ _ _ h9e; walk_at "sp 5") | (refine' ex8 (n9x691) ?_; intro _ _ _ _ _ _ _ _ h9e; walk_at "sp 9") | (refine' ex6 (n9x691) ?_; intro _ _ _ _ _ _ h9e; walk_at "sp 11") | (refine' ex4 (n9x691) ?_; intro _ _ _ _ h9e; walk_at "sp 13") | (refine' ex3 (n9x691) ?_; intro _ _ _ h9e; walk_at "sp 14") | (refine' ex2 (n9x691) ?_; intro _ _ h9e; walk_at "sp 15") | (refine' ex1 (n9x691) ?_; intro _ h9e; walk_at "sp 16") | (refine' and6 (n9x691) ?_; intro _ _ _ _ _ h9e; walk_at "sp 12") | (refine' and4 (n9x691) ?_; intro _ _ _ h9e; walk_at "sp 14") | (refine' and3 (n9x691) ?_; intro _ _ h9e; walk_at "sp 15") | (refine' and2 (n9x691) ?_; intro _ h9e; walk_at "sp 16") | (obtain ⟨_, _, _, _, _, _, _, _, _, _, _, _, _, _, _, _, _⟩ := n9x691)
  rename_i d n sl h1 t1 df h2 t2 h3 t3 h4 t4 h5 t5 u5 m1 m2
  try (clear n9x691)
  clear d9x692
  first | (refine' ex3 (n9x693) ?_; intro _ _ _ _ ) | (refine' ex2 (n9x693) ?_; intro _ _ h9e; walk_at "sp 2") | (refine' ex1 (n9x693) ?_; intro _ h9e; walk_at "sp 3") | (refine' and4 (n9x693) ?_; intro _ _ _ _ ) | (refine' and3 (n9x693) ?_; intro _ _ h9e; walk_at "sp 2") | (refine' and2 (n9x693) ?_; intro _ h9e; walk_at "sp 3") | (obtain ⟨_, _, _, _⟩ := n9x693)
  rename_i hrm hrl hrt hra
  try (clear n9x693)
  refine wpAny_call ?_
  k_dflt walk_at "k_enter"
  (try (with_reducible show wpAny _ _ _ _ _ _))
  (try k_fold)
  k_steps
  refine ⟨?_⟩
  refine forMem (stat := led) (var₀ := []) hrm (by assumption) (by assumption) (fun i m nx => nx = [] ∧ Keeps [Str.ofString "rule"] _ m ∧ (rs.take i).all (fun r => !(r.sort == .endS && r.places.contains c)) = true)
    (by rfl) (by rfl) (fun _ => rfl) (by passes_own) ?hi (by rfl) (fun _ h => nomatch h) ⟨rfl, .refl, rfl⟩ ?turn ?done
  (case hi =>
    (try (with_reducible show wpAny _ _ _ _ _ _))
    (try k_fold)
    k_steps
    refine' ⟨_, _, rfl, rfl, ?F, ?N⟩
    (case F => k_asm)
    (case N => walk_at "k_news"))
  (case turn =>
    intro i v m₁ nx h tk I oI hv hI ho hst hJ9 F1 N1
    (with_reducible show wpAny _ _ _ _ _ _)
    k_fold
    obtain ⟨rfl, hK, hS⟩ := hJ9
    obtain ⟨u', rfl⟩ := canon0 hK
    dsimp only [List.nil_append] at N1
    have hil := (List.getElem?_eq_some_iff.mp hv).1
    obtain ⟨r, hr⟩ : ∃ r, rs[i]? = some r := ⟨rs[i]'(by omega), by simp⟩
    obtain ⟨v2, hv2, hR⟩ := hra i r hr
    obtain rfl : v2 = v := by rw [hv] at hv2; exact (Option.some.inj hv2).symm
    have hR' : RuleAt ((I, oI) :: led) v2 i r := hR.mono fun _ h => .tail _ h
    have hR2 := hR
    first | (refine' ex12 (hR2) ?_; intro _ _ _ _ _ _ _ _ _ _ _ _ h9e; walk_at "sp 9") | (refine' ex8 (hR2) ?_; intro _ _ _ _ _ _ _ _ h9e; walk_at "sp 13") | (refine' ex6 (hR2) ?_; intro _ _ _ _ _ _ h9e; walk_at "sp 15") | (refine' ex4 (hR2) ?_; intro _ _ _ _ h9e; walk_at "sp 17") | (refine' ex3 (hR2) ?_; intro _ _ _ h9e; walk_at "sp 18") | (refine' ex2 (hR2) ?_; intro _ _ h9e; walk_at "sp 19") | (refine' ex1 (hR2) ?_; intro _ h9e; walk_at "sp 20") | (refine' and6 (hR2) ?_; intro _ _ _ _ _ h9e; walk_at "sp 16") | (refine' and4 (hR2) ?_; intro _ _ _ h9e; walk_at "sp 18") | (refine' and3 (hR2) ?_; intro _ _ h9e; walk_at "sp 19") | (refine' and2 (hR2) ?_; intro _ h9e; walk_at "sp 20") | (obtain ⟨_, _, _, _, _, _, _, _, _, _, _, _, _, _, _, _, _, _, _, _, _⟩ := hR2)
    rename_i xr dr nr slr q1 q2 q3 q4 q5 pl q6 q7 pv q8 q9 st q10 q11 q12 e9x734 r9x735
    try (clear hR2)
    subst e9x734
    first | (refine' ex4 (r9x735) ?_; intro _ _ _ _ _ ) | (refine' ex3 (r9x735) ?_; intro _ _ _ h9e; walk_at "sp 2") | (refine' ex2 (r9x735) ?_; intro _ _ h9e; walk_at "sp 3") | (refine' ex1 (r9x735) ?_; intro _ h9e; walk_at "sp 4") | (refine' and4 (r9x735) ?_; intro _ _ _ h9e; walk_at "sp 2") | (refine' and3 (r9x735) ?_; intro _ _ h9e; walk_at "sp 3") | (refine' and2 (r9x735) ?_; intro _ h9e; walk_at "sp 4") | (obtain ⟨_, _, _, _, _⟩ := r9x735)
    rename_i mr1 mr2 d9x738 d9x739 d9x740
    try (clear r9x735)
    clear d9x738
    clear d9x739
    clear d9x740
    (try (with_reducible show wpAny _ _ _ _ _ _))
    (try k_fold)
    k_steps
    · refine ItPostM.ret ?_
      (try (with_reducible show wpAny _ _ _ _ _ _))
      (try k_fold)
      k_steps
      refine' hret _ [] _ _ ⟨rfl, ?o⟩ ordNil ?F ?N
      (case F => k_asm)
      (case N => walk_at "k_news")
      (case o => (unfold EndOut; rw [endAt_some hS hr (by assumption) (by assumption)]; exact hv))
    all_goals (
      refine' CutI.mk ⟨_, _, _, [], rfl, ?F, ?N, ho, rfl, ?K, ?i⟩
      (case F => k_asm)
      (case N => walk_at "k_news")
      (case K => walk_at "k_keeps")
      (case i => (rw [all_step _ hr, hS]; simp_all))))
  (case done =>
    rintro m₁ nx h tk ⟨rfl, hK, hS⟩ F1 N1 ho
    obtain ⟨u', rfl⟩ := canon0 hK
    dsimp only [List.nil_append] at N1
    (try (with_reducible show wpAny _ _ _ _ _ _))
    (try k_fold)
    k_steps
    refine' hret _ [] _ _ ⟨rfl, ?o⟩ ordNil ?F ?N
    (case F => k_asm)
    (case N => walk_at "k_news")
    (case o => (unfold EndOut; rw [endAt_none hS hrl])))
theorem endAt_le {rs : List Row} {c i : Nat} {r : Row} (hr : rs[i]? = some r) (h1 : (r.sort == .endS) = true) (h2 : r.places.contains c = true) : ∃ k, endAt rs c = some k ∧ k ≤ i ∧ ((k : Int) == (i : Int)) = isFirst rs i c := by
  cases e : endAt rs c with
  | none =>
    unfold endAt at e
    rw [List.findIdx?_eq_none_iff] at e
    have := e r (List.mem_of_getElem? hr)
    rw [h1, h2] at this
    cases this
  | some k =>
    refine ⟨k, rfl, ?_⟩
    unfold endAt at e
    rw [List.findIdx?_eq_some_iff_getElem] at e
    obtain ⟨hk, hp, hlt⟩ := e
    obtain ⟨hi, er⟩ := List.getElem?_eq_some_iff.mp hr
    have hki : k ≤ i := by
      apply Nat.le_of_not_lt
      intro h
      have := hlt i h
      rw [er, h1, h2] at this
      simp at this
    refine ⟨hki, ?_⟩
    unfold isFirst
    rw [Bool.eq_iff_iff]
    constructor
    · intro h
      have h : k = i := by have := beq_iff_eq.mp h; omega
      subst h
      rw [List.all_eq_true]
      intro x hx
      obtain ⟨j, hj, rfl⟩ := List.mem_iff_getElem.mp hx
      rw [List.length_take] at hj
      have := hlt j (by omega)
      rw [List.getElem_take]
      simpa [Classical.or_iff_not_imp_left] using this
    · intro h
      apply beq_iff_eq.mpr
      apply congrArg
      apply Nat.le_antisymm hki
      apply Nat.le_of_not_lt
      intro hlt'
      have := List.all_eq_true.mp h (rs[k]'hk) (List.mem_iff_getElem.mpr ⟨k, by rw [List.length_take]; omega, by simp⟩)
      rw [hp] at this
      cases this
def canDo (rs : List Row) (i : Nat) (r : Row) (c : Nat) : Bool := match r.sort with
  | .endS => isFirst rs i c
  | .good => true
  | .bad => false
theorem words_file3_2 : True := by
  k_with "con" => ((with_reducible refine' Con.mono (canMatchC _ _ _ _ ?ca) ?sb); (case ca => assumption); (case sb => walk_at "my sub"))
  k_with "con" => ((with_reducible refine' Con.mono (endRuleC _ _ _ _ _ _ _ _ _ _ _ _ _ ?ca) ?sb); (case ca => assumption); (case sb => walk_at "my sub"))
  trivial
theorem canDoC (w : World) (f cl : Addr) (cvs : List Value) (ck : Nat) (rl : Addr) (rvs : List Value) (rk many : Nat) (rs : List Row) (i c : Nat) (r : Row) (v : Value) (tc : Tok) (sub : Led) (hf : FileAt sub f cl cvs ck rl rvs rk many rs) (hr : rs[i]? = some r) (hv : RuleAt sub v i r) (hc : r.places.contains c = true) :
    Con w 538 [.ref f, v, .int (c : Int) tc] 430 7500 sub (fun x nw _ => nw = [] ∧ x = .bool (canDo rs i r c)) := by
  intro mean mg mb dp un gd cn cs a0 ccd cl0 outer A₀ base h₀ L m s Q E led B F X N hsub T hk hdp hu hret
  revert X; k_fill; intro X
  replace hf := hf.mono hsub
  replace hv := hv.mono hsub
  first | (refine' ex2 (id hf) ?_; intro _ _ _ ) | (refine' ex1 (id hf) ?_; intro _ h9e; walk_at "sp 2") | (refine' and3 (id hf) ?_; intro _ _ _ ) | (refine' and2 (id hf) ?_; intro _ h9e; walk_at "sp 2") | (obtain ⟨_, _, _⟩ := id hf)
  rename_i n9x741 d9x742 n9x743
  first | (refine' ex12 (n9x741) ?_; intro _ _ _ _ _ _ _ _ _ _ _ _ h9e; walk_at "sp 5") | (refine' ex8 (n9x741) ?_; intro _ _ _ _ _ _ _ _ h9e; walk_at "sp 9") | (refine' ex6 (n9x741) ?_; intro _ _ _ _ _ _ h9e; walk_at "sp 11") | (refine' ex4 (n9x741) ?_; intro _ _ _ _ h9e; walk_at "sp 13") | (refine' ex3 (n9x741) ?_; intro _ _ _ h9e; walk_at "sp 14") | (refine' ex2 (n9x741) ?_; intro _ _ h9e; walk_at "sp 15") | (refine' ex1 (n9x741) ?_; intro _ h9e; walk_at "sp 16") | (refine' and6 (n9x741) ?_; intro _ _ _ _ _ h9e; walk_at "sp 12") | (refine' and4 (n9x741) ?_; intro _ _ _ h9e; walk_at "sp 14") | (refine' and3 (n9x741) ?_; intro _ _ h9e; walk_at "sp 15") | (refine' and2 (n9x741) ?_; intro _ h9e; walk_at "sp 16") | (obtain ⟨_, _, _, _, _, _, _, _, _, _, _, _, _, _, _, _, _⟩ := n9x741)
  rename_i d n sl h1 t1 df h2 t2 h3 t3 h4 t4 h5 t5 u5 m1 m2
  try (clear n9x741)
  clear d9x742
  first | (refine' ex3 (n9x743) ?_; intro _ _ _ _ ) | (refine' ex2 (n9x743) ?_; intro _ _ h9e; walk_at "sp 2") | (refine' ex1 (n9x743) ?_; intro _ h9e; walk_at "sp 3") | (refine' and4 (n9x743) ?_; intro _ _ _ _ ) | (refine' and3 (n9x743) ?_; intro _ _ h9e; walk_at "sp 2") | (refine' and2 (n9x743) ?_; intro _ h9e; walk_at "sp 3") | (obtain ⟨_, _, _, _⟩ := n9x743)
  rename_i hrm hrl hrt hra
  try (clear n9x743)
  first | (refine' ex12 (id hv) ?_; intro _ _ _ _ _ _ _ _ _ _ _ _ h9e; walk_at "sp 9") | (refine' ex8 (id hv) ?_; intro _ _ _ _ _ _ _ _ h9e; walk_at "sp 13") | (refine' ex6 (id hv) ?_; intro _ _ _ _ _ _ h9e; walk_at "sp 15") | (refine' ex4 (id hv) ?_; intro _ _ _ _ h9e; walk_at "sp 17") | (refine' ex3 (id hv) ?_; intro _ _ _ h9e; walk_at "sp 18") | (refine' ex2 (id hv) ?_; intro _ _ h9e; walk_at "sp 19") | (refine' ex1 (id hv) ?_; intro _ h9e; walk_at "sp 20") | (refine' and6 (id hv) ?_; intro _ _ _ _ _ h9e; walk_at "sp 16") | (refine' and4 (id hv) ?_; intro _ _ _ h9e; walk_at "sp 18") | (refine' and3 (id hv) ?_; intro _ _ h9e; walk_at "sp 19") | (refine' and2 (id hv) ?_; intro _ h9e; walk_at "sp 20") | (obtain ⟨_, _, _, _, _, _, _, _, _, _, _, _, _, _, _, _, _, _, _, _, _⟩ := id hv)
  rename_i xr dr nr slr q1 q2 q3 q4 q5 pl q6 q7 pv q8 q9 st q10 q11 q12 e9x784 r9x785
  subst e9x784
  first | (refine' ex4 (r9x785) ?_; intro _ _ _ _ _ ) | (refine' ex3 (r9x785) ?_; intro _ _ _ h9e; walk_at "sp 2") | (refine' ex2 (r9x785) ?_; intro _ _ h9e; walk_at "sp 3") | (refine' ex1 (r9x785) ?_; intro _ h9e; walk_at "sp 4") | (refine' and4 (r9x785) ?_; intro _ _ _ h9e; walk_at "sp 2") | (refine' and3 (r9x785) ?_; intro _ _ h9e; walk_at "sp 3") | (refine' and2 (r9x785) ?_; intro _ h9e; walk_at "sp 4") | (obtain ⟨_, _, _, _, _⟩ := r9x785)
  rename_i mr1 mr2 d9x788 hp d9x790
  try (clear r9x785)
  clear d9x788
  clear d9x790
  by_cases he : (r.sort == .endS) = true
  · have cE : Con w 614 [.ref xr] 20 100 led (fun x nw _ => nw = [] ∧ x = .bool true) := by
      have := isEndC w _ i r led hv
      rw [he] at this
      exact this
    refine wpAny_call ?_
    k_dflt walk_at "k_enter"
    (try (with_reducible show wpAny _ _ _ _ _ _))
    (try k_fold)
    k_steps
    first | (refine' ex3 (endAt_le hr he hc) ?_; intro _ _ _ _ ) | (refine' ex2 (endAt_le hr he hc) ?_; intro _ _ h9e; walk_at "sp 2") | (refine' ex1 (endAt_le hr he hc) ?_; intro _ h9e; walk_at "sp 3") | (refine' and4 (endAt_le hr he hc) ?_; intro _ _ _ _ ) | (refine' and3 (endAt_le hr he hc) ?_; intro _ _ h9e; walk_at "sp 2") | (refine' and2 (endAt_le hr he hc) ?_; intro _ h9e; walk_at "sp 3") | (obtain ⟨_, _, _, _⟩ := endAt_le hr he hc)
    rename_i k hk hki hf2
    have o9 : rvs[k]? = some v9 := by have o9 := o9; unfold EndOut at o9; rw [hk] at o9; exact o9
    obtain ⟨rk2, hrk⟩ : ∃ x, rs[k]? = some x := ⟨rs[k]'(by have := (List.getElem?_eq_some_iff.mp hr).1; omega), by simp⟩
    obtain ⟨v2, hv2, hR⟩ := hra k rk2 hrk
    obtain rfl : v2 = v9 := by rw [o9] at hv2; exact (Option.some.inj hv2).symm
    first | (refine' ex12 (hR) ?_; intro _ _ _ _ _ _ _ _ _ _ _ _ h9e; walk_at "sp 9") | (refine' ex8 (hR) ?_; intro _ _ _ _ _ _ _ _ h9e; walk_at "sp 13") | (refine' ex6 (hR) ?_; intro _ _ _ _ _ _ h9e; walk_at "sp 15") | (refine' ex4 (hR) ?_; intro _ _ _ _ h9e; walk_at "sp 17") | (refine' ex3 (hR) ?_; intro _ _ _ h9e; walk_at "sp 18") | (refine' ex2 (hR) ?_; intro _ _ h9e; walk_at "sp 19") | (refine' ex1 (hR) ?_; intro _ h9e; walk_at "sp 20") | (refine' and6 (hR) ?_; intro _ _ _ _ _ h9e; walk_at "sp 16") | (refine' and4 (hR) ?_; intro _ _ _ h9e; walk_at "sp 18") | (refine' and3 (hR) ?_; intro _ _ h9e; walk_at "sp 19") | (refine' and2 (hR) ?_; intro _ h9e; walk_at "sp 20") | (obtain ⟨_, _, _, _, _, _, _, _, _, _, _, _, _, _, _, _, _, _, _, _, _⟩ := hR)
    rename_i xr2 dr2 nr2 slr2 q21 q22 q23 q24 q25 pl2 q26 q27 pv2 q28 q29 st2 q210 q211 q212 e9x814 r9x815
    try (clear hR)
    subst e9x814
    first | (refine' ex4 (r9x815) ?_; intro _ _ _ _ _ ) | (refine' ex3 (r9x815) ?_; intro _ _ _ h9e; walk_at "sp 2") | (refine' ex2 (r9x815) ?_; intro _ _ h9e; walk_at "sp 3") | (refine' ex1 (r9x815) ?_; intro _ h9e; walk_at "sp 4") | (refine' and4 (r9x815) ?_; intro _ _ _ h9e; walk_at "sp 2") | (refine' and3 (r9x815) ?_; intro _ _ h9e; walk_at "sp 3") | (refine' and2 (r9x815) ?_; intro _ h9e; walk_at "sp 4") | (obtain ⟨_, _, _, _, _⟩ := r9x815)
    rename_i mr21 mr22 d9x818 d9x819 d9x820
    try (clear r9x815)
    clear d9x818
    clear d9x819
    clear d9x820
    (try (with_reducible show wpAny _ _ _ _ _ _))
    (try k_fold)
    k_steps
    refine' hret _ [] _ _ ⟨rfl, ?o⟩ ordNil ?F ?N
    (case F => k_asm)
    (case N => walk_at "k_news")
    (case o => (rw [show canDo rs i r c = isFirst rs i c from by unfold canDo; rw [beq_iff_eq.mp he], ← hf2]))
  · have he := Bool.eq_false_iff.mpr he
    have cE : Con w 614 [.ref xr] 20 100 led (fun x nw _ => nw = [] ∧ x = .bool false) := by
      have := isEndC w _ i r led hv
      rw [he] at this
      exact this
    have hP : PatAt led pv (canDo rs i r c) := by
      unfold canDo
      cases e : r.sort with
      | endS => rw [e] at he; cases he
      | good => rw [e] at hp; exact hp
      | bad => rw [e] at hp; exact hp
    obtain ⟨xp, rfl⟩ := hP.ref
    refine wpAny_call ?_
    k_dflt walk_at "k_enter"
    (try (with_reducible show wpAny _ _ _ _ _ _))
    (try k_fold)
    k_steps
    refine' hret _ [] _ _ ⟨rfl, rfl⟩ ordNil ?F ?N
    (case F => k_asm)
    (case N => walk_at "k_news")

theorem appendL {prog : Program} {w : World} {A : Around} {E : Value → Shared → Prop} {s : Shared} {h₀ : Heap} {L D : Addr} {m : Str → Option Value} {news news' : Led} {vs : List Value} {n : Nat} {x : Value} {Q : Value → Shared → Prop} (F : Fr h₀ L s.heap m) (N : News h₀ L s.heap news)
    (U : Upd D (listOf vs.toArray n) (listOf (vs ++ [x]).toArray (n + 1)) news news') (hz : vs.length < 1000000) (h : ∀ h', Fr h₀ L h' m → News h₀ L h' news' → Q .none { s with heap := h' }) : wpAny (model prog w) A (call (.builtin "list.append") [.ref D, x]) Q E s :=
  append_K F N (by rw [List.push_toArray]; exact U) h (by rw [List.size_toArray, sizeLine_eq]; omega)
theorem popL {prog : Program} {w : World} {A : Around} {E : Value → Shared → Prop} {s : Shared} {h₀ : Heap} {L D : Addr} {m : Str → Option Value} {news news' : Led} {vs : List Value} {n : Nat} {x : Value} {Q : Value → Shared → Prop} (F : Fr h₀ L s.heap m) (N : News h₀ L s.heap news)
    (U : Upd D (listOf (vs ++ [x]).toArray n) (listOf vs.toArray (n + 1)) news news') (hz : vs.length < 1000000) (h : ∀ h', Fr h₀ L h' m → News h₀ L h' news' → Q x { s with heap := h' }) : wpAny (model prog w) A (call (.builtin "list.pop") [.ref D]) Q E s :=
  kl_pop F N (by simpa using kpa_last x vs) U (by rw [sizeLine_eq]; simp; omega) h
abbrev St := List Bool × List Nat
def goalStep (st : St) (g : Nat) : St := if st.1.getD g false then st else (st.1.set g true, st.2 ++ [g])
def ruleStep (rs : List Row) (c : Nat) (st : St) (n : Nat) : St := match rs[n]? with
  | none => st
  | some r => if r.places.contains c && canDo rs n r c then r.goals.foldl goalStep st else st
def popStep (rs : List Row) (c : Nat) (st : St) : St := (List.range rs.length).foldl (ruleStep rs c) st
inductive Reach (rs : List Row) (many : Nat) : St → Prop
  | init : Reach rs many (true :: List.replicate (many - 1) false, [0])
  | pop {bs ws c} : Reach rs many (bs, ws ++ [c]) → Reach rs many (popStep rs c (bs, ws))
def meas (st : St) : Nat := st.1.count false + st.2.length
/-- what the worklist's state keeps -/
structure StOk (many : Nat) (st : St) : Prop where
  len : st.1.length = many
  lt : ∀ w ∈ st.2, w < many
  ms : meas st ≤ many
def EJ (W S : Addr) (kS : Nat) (pre post : Led) (st : St) (nx : Led) : Prop := ∃ wv kw vs, nx = pre ++ (W, listOf wv.toArray kw) :: (S, listOf vs.toArray kS) :: post ∧ LSm.BoolsAre vs st.1 ∧ IntsAre wv (natI st.2)
theorem count_set {bs : List Bool} {g : Nat} (h : g < bs.length) (hf : bs.getD g false = false) : (bs.set g true).count false + 1 = bs.count false := by
  induction bs generalizing g with
  | nil => simp at h
  | cons b bs ih =>
    cases g with
    | zero => simp at hf; subst hf; simp
    | succ g =>
      simp only [List.set_cons_succ, List.count_cons]
      have := ih (g := g) (by simpa using h) (by simpa using hf)
      omega
theorem goalStep_ok {many : Nat} {st : St} {g : Nat} (h : StOk many st) (hg : g < many) : StOk many (goalStep st g) ∧ meas (goalStep st g) = meas st := by
  unfold goalStep
  split
  · exact ⟨h, rfl⟩
  · rename_i q
    have q : st.1.getD g false = false := by simpa using q
    have c := count_set (by rw [h.len]; exact hg) q
    have m : meas (st.1.set g true, st.2 ++ [g]) = meas st := by
      unfold meas
      simp only [List.length_append, List.length_cons, List.length_nil]
      omega
    refine ⟨⟨by simp [h.len], ?_, by rw [m]; exact h.ms⟩, m⟩
    intro w hw
    rcases List.mem_append.mp hw with hw | hw
    · exact h.lt w hw
    · rw [List.mem_singleton.mp hw]; exact hg
theorem goalsStep_ok {many : Nat} : ∀ (gs : List Nat) {st : St}, StOk many st → (∀ g ∈ gs, g < many) → StOk many (gs.foldl goalStep st) ∧ meas (gs.foldl goalStep st) = meas st
  | [], _, h, _ => ⟨h, rfl⟩
  | g :: gs, st, h, hg => by
    have a := goalStep_ok h (hg g (.head _))
    have b := goalsStep_ok gs a.1 fun x hx => hg x (.tail _ hx)
    exact ⟨b.1, b.2.trans a.2⟩
theorem ruleStep_ok {many : Nat} {rs : List Row} (hok : ∀ r ∈ rs, RowOk many r) {c n : Nat} {st : St} (h : StOk many st) : StOk many (ruleStep rs c st n) ∧ meas (ruleStep rs c st n) = meas st := by
  unfold ruleStep
  split
  · exact ⟨h, rfl⟩
  · rename_i r q
    split
    · exact goalsStep_ok _ h (hok r (List.mem_of_getElem? q)).goals
    · exact ⟨h, rfl⟩
theorem rulesStep_ok {many : Nat} {rs : List Row} (hok : ∀ r ∈ rs, RowOk many r) {c : Nat} : ∀ (ns : List Nat) {st : St}, StOk many st → StOk many (ns.foldl (ruleStep rs c) st) ∧ meas (ns.foldl (ruleStep rs c) st) = meas st
  | [], _, h => ⟨h, rfl⟩
  | n :: ns, st, h => by
    have a := ruleStep_ok hok (c := c) (n := n) h
    have b := rulesStep_ok hok (c := c) ns a.1
    exact ⟨b.1, b.2.trans a.2⟩
theorem StOk.wlt {many : Nat} {st : St} (h : StOk many st) : st.2.length ≤ many := by
  have := h.ms
  unfold meas at this
  omega
theorem foldl_range_succ {α : Type} (f : α → Nat → α) (a : α) (n : Nat) : (List.range (n + 1)).foldl f a = f ((List.range n).foldl f a) n := by
  rw [List.range_succ, List.foldl_append]; rfl
theorem intsConcat {vs : List Value} {ws : List Nat} {c : Nat} (h : IntsAre vs (natI (ws ++ [c]))) : ∃ vs' t, vs = vs' ++ [.int (c : Int) t] ∧ IntsAre vs' (natI ws) := by
  induction ws generalizing vs with
  | nil =>
    first | (refine' ex3 (IntsAre.cons_inv h) ?_; intro _ _ _ _ ) | (refine' ex2 (IntsAre.cons_inv h) ?_; intro _ _ h9e; walk_at "sp 2") | (refine' ex1 (IntsAre.cons_inv h) ?_; intro _ h9e; walk_at "sp 3") | (refine' and4 (IntsAre.cons_inv h) ?_; intro _ _ _ _ ) | (refine' and3 (IntsAre.cons_inv h) ?_; intro _ _ h9e; walk_at "sp 2") | (refine' and2 (IntsAre.cons_inv h) ?_; intro _ h9e; walk_at "sp 3") | (obtain ⟨_, _, _, _⟩ := IntsAre.cons_inv h)
    rename_i t r e9x823 r9x824
    subst e9x823
    have h2 := r9x824; clear r9x824
    obtain rfl := IntsAre.nil_inv h2
    exact ⟨[], t, rfl, .nil⟩
  | cons w ws ih =>
    first | (refine' ex3 (IntsAre.cons_inv h) ?_; intro _ _ _ _ ) | (refine' ex2 (IntsAre.cons_inv h) ?_; intro _ _ h9e; walk_at "sp 2") | (refine' ex1 (IntsAre.cons_inv h) ?_; intro _ h9e; walk_at "sp 3") | (refine' and4 (IntsAre.cons_inv h) ?_; intro _ _ _ _ ) | (refine' and3 (IntsAre.cons_inv h) ?_; intro _ _ h9e; walk_at "sp 2") | (refine' and2 (IntsAre.cons_inv h) ?_; intro _ h9e; walk_at "sp 3") | (obtain ⟨_, _, _, _⟩ := IntsAre.cons_inv h)
    rename_i t r e9x827 r9x828
    subst e9x827
    have h2 := r9x828; clear r9x828
    first | (refine' ex3 (ih h2) ?_; intro _ _ _ _ ) | (refine' ex2 (ih h2) ?_; intro _ _ h9e; walk_at "sp 2") | (refine' ex1 (ih h2) ?_; intro _ h9e; walk_at "sp 3") | (refine' and4 (ih h2) ?_; intro _ _ _ _ ) | (refine' and3 (ih h2) ?_; intro _ _ h9e; walk_at "sp 2") | (refine' and2 (ih h2) ?_; intro _ h9e; walk_at "sp 3") | (obtain ⟨_, _, _, _⟩ := ih h2)
    rename_i vs' t' e9x831 r9x832
    subst e9x831
    have h3 := r9x832; clear r9x832
    exact ⟨_ :: vs', t', rfl, .cons _ t h3⟩
theorem StOk.pop {many c : Nat} {bs : List Bool} {ws : List Nat} (h : StOk many (bs, ws ++ [c])) : StOk many (bs, ws) ∧ meas (bs, ws) < meas (bs, ws ++ [c]) ∧ c < many := by
  have m := h.ms
  unfold meas at *
  simp only [List.length_append, List.length_cons, List.length_nil] at *
  exact ⟨⟨h.len, fun w hw => h.lt w (List.mem_append.mpr (.inl hw)), by unfold meas; simp only; omega⟩, by omega, h.lt c (List.mem_append.mpr (.inr (.head _)))⟩
theorem offMap {P : Addr → Prop} {nx nx' : Led} (h : ∀ p ∈ nx, P p.1) (e : nx'.map Prod.fst = nx.map Prod.fst) : ∀ p ∈ nx', P p.1 := by
  intro p hp
  have : p.1 ∈ nx.map Prod.fst := e ▸ List.mem_map.mpr ⟨p, hp, rfl⟩
  obtain ⟨q, hq, e2⟩ := List.mem_map.mp this
  exact e2 ▸ h q hq
theorem goals_succ {gs : List Nat} {t g : Nat} {st : St} (hg : gs[t]? = some g) : (gs.take (t + 1)).foldl goalStep st = goalStep ((gs.take t).foldl goalStep st) g := by
  rw [List.take_add_one, hg, List.foldl_append]; rfl
theorem goalStep_no {bs : List Bool} {ws : List Nat} {g : Nat} (h : bs.getD g false = true) : goalStep (bs, ws) g = (bs, ws) := by unfold goalStep; rw [if_pos h]
theorem goalStep_yes {bs : List Bool} {ws : List Nat} {g : Nat} (h : bs.getD g false = false) : goalStep (bs, ws) g = (bs.set g true, ws ++ [g]) := by unfold goalStep; rw [if_neg (by simpa using h)]
theorem intsSnoc {vs : List Value} {ws : List Nat} (h : IntsAre vs (natI ws)) (g : Nat) (t : Tok) : IntsAre (vs ++ [.int (g : Int) t]) (natI (ws ++ [g])) := by
  have e : natI (ws ++ [g]) = natI ws ++ [(g : Int)] := by unfold natI; rw [List.map_append]; rfl
  rw [e]
  exact IntsAre.append h (.cons _ t .nil)
theorem ruleStep_no {rs : List Row} {c i : Nat} {r : Row} {st : St} (hr : rs[i]? = some r) (h : (r.places.contains c && canDo rs i r c) = false) : ruleStep rs c st i = st := by
  unfold ruleStep; rw [hr]; simp only [h]; rfl
theorem ruleStep_yes {rs : List Row} {c i : Nat} {r : Row} {st : St} (hr : rs[i]? = some r) (h : (r.places.contains c && canDo rs i r c) = true) : ruleStep rs c st i = r.goals.foldl goalStep st := by
  unfold ruleStep; rw [hr]; simp only [h]; rfl
theorem words_ent_1 : True := by
  k_with "last exec While" => (k_here; (rename HoldMark => hM9); (with_reducible show wpAny _ _ (exec (PySem.Stmt.While _ _ _ _) _) _ _ _); refine held ?_)
  k_with "exec While" => (k_here; (rename HoldMark => hM9); (with_reducible show wpAny _ _ (exec (PySem.Stmt.While _ _ _ _) _) _ _ _); refine held ?_)
  k_with "exec While Name cons nil" => (k_here; (rename HoldMark => hM9); (with_reducible show wpAny _ _ (exec (PySem.Stmt.While _ _ _ _) _) _ _ _); refine held ?_)
  k_with "truthy ref" => (k_here; (with_reducible show wpAny _ _ (truthy (Value.ref _)) _ _ _); k_dflt (refine' kgr_truthy ?N ?m ?c ?d ?f ?_; (case N => k_asm); (case m => k_mem); (case c => rfl); (case d => rfl); (case f => (first | omega | (simp only [List.length_append, List.length_cons, List.length_nil]; omega)))))
  k_with "call builtin:list.append" => (k_here; (with_reducible show wpAny _ _ (call (Value.builtin _) [Value.ref _, _]) _ _ _); (rename HoldMark => hM9); k_dflt (refine' appendL ?F ?N ?U ?z ?_; (case F => k_asm); (case N => k_asm); (case U => k_upd); (case z => first | omega | (simp only [List.length_append, List.length_cons, List.length_nil]; omega))); intro h' F' N'; (try k_sweep))
  k_with "call builtin:list.pop" => (k_here; (with_reducible show wpAny _ _ (call (Value.builtin _) [Value.ref _]) _ _ _); (rename HoldMark => hM9); k_dflt (refine' popL ?F ?N ?U ?z ?_; (case F => k_asm); (case N => k_asm); (case U => k_upd); (case z => first | omega)); intro h' F' N'; (try k_sweep))
  k_with "con" => ((with_reducible refine' Con.mono (condNumC _ _ _ _ _ _ _ _ _ _ _ _ _ ?ca ?cb ?cc) ?sb); (case ca => assumption); (case cb => assumption); (case cc => assumption); (case sb => walk_at "my sub"))
  k_with "con" => ((with_reducible refine' Con.mono (canDoC _ _ _ _ _ _ _ _ _ _ _ _ _ _ _ _ ?ca ?cb ?cc ?cd) ?sb); (case ca => assumption); (case cb => assumption); (case cc => assumption); (case cd => assumption); (case sb => walk_at "my sub"))
  k_with "con" => ((with_reducible refine' Con.mono (goalsC _ _ _ _ _ ?ca) ?sb); (case ca => assumption); (case sb => walk_at "my sub"))
  k_with "con out" => (obtain ⟨D9, k9, e9, vs9, e9', o9⟩ := o9; subst e9 e9'; (try dsimp only [List.cons_append, List.nil_append] at N9))
  trivial
theorem enteredC (w : World) (f cl : Addr) (cvs : List Value) (ck : Nat) (rl : Addr) (rvs : List Value) (rk many : Nat) (rs : List Row) (sub : Led) (hf : FileAt sub f cl cvs ck rl rvs rk many rs) (hok : ∀ r ∈ rs, RowOk many r) (hm2 : 2 ≤ many) (hm4 : many ≤ 4) :
    Con w 545 [.ref f] 460 8000 sub (fun x nw _ => ∃ D k, x = .ref D ∧ ∃ vs, nw = [(D, listOf (List.toArray vs) k)] ∧ ∃ bs, LSm.BoolsAre vs bs ∧ Reach rs many (bs, [])) := by
  intro mean mg mb dp un gd cn cs a0 ccd cl0 outer A₀ base h₀ L m s Q E led B F X N hsub T hk hdp hu hret
  revert X; k_fill; intro X
  have fX9 : FoldX := ⟨⟩
  have hM9 : HoldMark := ⟨⟩
  replace hf := hf.mono hsub
  first | (refine' ex2 (id hf) ?_; intro _ _ _ ) | (refine' ex1 (id hf) ?_; intro _ h9e; walk_at "sp 2") | (refine' and3 (id hf) ?_; intro _ _ _ ) | (refine' and2 (id hf) ?_; intro _ h9e; walk_at "sp 2") | (obtain ⟨_, _, _⟩ := id hf)
  rename_i n9x833 n9x834 n9x835
  first | (refine' ex12 (n9x833) ?_; intro _ _ _ _ _ _ _ _ _ _ _ _ h9e; walk_at "sp 5") | (refine' ex8 (n9x833) ?_; intro _ _ _ _ _ _ _ _ h9e; walk_at "sp 9") | (refine' ex6 (n9x833) ?_; intro _ _ _ _ _ _ h9e; walk_at "sp 11") | (refine' ex4 (n9x833) ?_; intro _ _ _ _ h9e; walk_at "sp 13") | (refine' ex3 (n9x833) ?_; intro _ _ _ h9e; walk_at "sp 14") | (refine' ex2 (n9x833) ?_; intro _ _ h9e; walk_at "sp 15") | (refine' ex1 (n9x833) ?_; intro _ h9e; walk_at "sp 16") | (refine' and6 (n9x833) ?_; intro _ _ _ _ _ h9e; walk_at "sp 12") | (refine' and4 (n9x833) ?_; intro _ _ _ h9e; walk_at "sp 14") | (refine' and3 (n9x833) ?_; intro _ _ h9e; walk_at "sp 15") | (refine' and2 (n9x833) ?_; intro _ h9e; walk_at "sp 16") | (obtain ⟨_, _, _, _, _, _, _, _, _, _, _, _, _, _, _, _, _⟩ := n9x833)
  rename_i d n sl h1 t1 df h2 t2 h3 t3 h4 t4 h5 t5 u5 m1 m2
  try (clear n9x833)
  obtain ⟨hcm, hcl, hca⟩ := n9x834
  first | (refine' ex3 (n9x835) ?_; intro _ _ _ _ ) | (refine' ex2 (n9x835) ?_; intro _ _ h9e; walk_at "sp 2") | (refine' ex1 (n9x835) ?_; intro _ h9e; walk_at "sp 3") | (refine' and4 (n9x835) ?_; intro _ _ _ _ ) | (refine' and3 (n9x835) ?_; intro _ _ h9e; walk_at "sp 2") | (refine' and2 (n9x835) ?_; intro _ h9e; walk_at "sp 3") | (obtain ⟨_, _, _, _⟩ := n9x835)
  rename_i hrm hrl hrt hra
  try (clear n9x835)
  have hcz : cvs.toArray.size = many := by rw [List.size_toArray, hcl]
  refine wpAny_call ?_
  k_dflt walk_at "k_enter"
  (try (with_reducible show wpAny _ _ _ _ _ _))
  (try k_fold)
  k_steps
  generalize (List.replicate (many : Int).toNat [Value.bool false]).flatten = vs0 at *
  obtain ⟨bs0, hbs0⟩ : ∃ b, b = List.replicate many false := ⟨_, rfl⟩
  have hb0 : LSm.BoolsAre vs0 bs0 := by
    have e : (List.replicate (many : Int).toNat [false]).flatten = bs0 := by rw [hbs0, List.flatten_replicate_singleton]; rfl
    rw [← e]; assumption
  have hl0 : bs0.length = many := by rw [hbs0, List.length_replicate]
  clear i1
  (try (with_reducible show wpAny _ _ _ _ _ _))
  (try k_fold)
  k_steps
  refine ⟨?_⟩
  rename_i Wa hhx lW hh F9 N9
  have hbS : LSm.BoolsAre (vs0.set 0 (.bool true)) (true :: List.replicate (many - 1) false) := by
    have := kbo_setB (b := true) hb0 0
    rw [hbs0] at this
    obtain ⟨q, rfl⟩ : ∃ q, many = q + 1 := ⟨many - 1, by omega⟩
    simpa [List.replicate_succ] using this
  have hSW : @LT.lt Nat _ D' Wa := lW.1
  have hlS : ∀ p ∈ led, @LT.lt Nat _ p.1 D' := ktn_ltOf l1.2
  have hSl : ∀ q ∈ led, ∀ p ∈ [(D', listOf (vs0.set 0 (.bool true)).toArray 0)], @Ne Nat q.1 p.1 := fun q hq p hp => by rw [List.mem_singleton.mp hp]; exact Nat.ne_of_lt (hlS q hq)
  have hlW : ∀ p ∈ led, @LT.lt Nat _ p.1 Wa := fun p hp => Nat.lt_trans (hlS p hp) hSW
  clear e2 e3 e4 s1 hl0 hb0
  refine While_inv (fun n m nx => ∃ st : St, Keeps [Str.ofString "condition", Str.ofString "rule", Str.ofString "name", Str.ofString "goal"] _ m ∧ EJ Wa D' 0 [] led st nx ∧ StOk many st ∧ Reach rs many st ∧ n = meas st) F9
    (news := (Wa, listOf #[Value.int 0 _] 0) :: (D', listOf (vs0.set 0 (.bool true)).toArray 0) :: led) (by walk_at "k_news") ⟨_, .refl, ⟨_, _, _, rfl, hbS, .cons 0 _ .nil⟩, ⟨?len, ?lt, ?ms⟩, .init, rfl⟩ ?turn
  (case len => (simp only [List.length_cons, List.length_replicate]; omega))
  (case lt => (intro w hw; rw [List.mem_singleton.mp hw]; omega))
  (case ms => (simp [meas, List.count_replicate]; omega))
  (case turn =>
    intro n m₁ nx h tk F1 N1 q9x857
    first | (refine' ex4 (q9x857) ?_; intro _ _ _ _ h9e; walk_at "sp 2") | (refine' ex3 (q9x857) ?_; intro _ _ _ h9e; walk_at "sp 3") | (refine' ex2 (q9x857) ?_; intro _ _ h9e; walk_at "sp 4") | (refine' ex1 (q9x857) ?_; intro _ h9e; walk_at "sp 5") | (refine' and6 (q9x857) ?_; intro _ _ _ _ _ _ ) | (refine' and4 (q9x857) ?_; intro _ _ _ h9e; walk_at "sp 3") | (refine' and3 (q9x857) ?_; intro _ _ h9e; walk_at "sp 4") | (refine' and2 (q9x857) ?_; intro _ h9e; walk_at "sp 5") | (obtain ⟨_, _, _, _, _, _⟩ := q9x857)
    rename_i n9x858 hK n9x860 hst hre e9x863
    try (clear q9x857)
    obtain ⟨bs, ws⟩ := n9x858
    first | (refine' ex4 (n9x860) ?_; intro _ _ _ _ _ ) | (refine' ex3 (n9x860) ?_; intro _ _ _ h9e; walk_at "sp 2") | (refine' ex2 (n9x860) ?_; intro _ _ h9e; walk_at "sp 3") | (refine' ex1 (n9x860) ?_; intro _ h9e; walk_at "sp 4") | (refine' and4 (n9x860) ?_; intro _ _ _ h9e; walk_at "sp 2") | (refine' and3 (n9x860) ?_; intro _ _ h9e; walk_at "sp 3") | (refine' and2 (n9x860) ?_; intro _ h9e; walk_at "sp 4") | (obtain ⟨_, _, _, _, _⟩ := n9x860)
    rename_i wv kw vs e9x867 r9x868
    try (clear n9x860)
    subst e9x867
    obtain ⟨hb, hw⟩ := r9x868
    subst e9x863
    obtain ⟨u', rfl⟩ := canon0 hK
    dsimp only [List.nil_append] at N1 hb hw
    have hbl : bs.length = many := hst.len
    have hwl : ws.length ≤ many := hst.wlt
    have hwv : wv.length = ws.length := by rw [hw.length]; exact List.length_map ..
    rcases List.eq_nil_or_concat ws with rfl | ⟨ws', c, rfl⟩
    · obtain rfl := IntsAre.nil_inv hw
      (try (with_reducible show wpAny _ _ _ _ _ _))
      (try k_fold)
      k_steps
      refine' hret _ [_] _ _ ⟨_, _, rfl, _, rfl, _, hb, hre⟩ ?o ?F ?N
      (case F => k_asm)
      (case N => walk_at "k_news")
      (case o => exact fun q hq p hp => by rw [List.mem_singleton.mp hp]; exact Nat.ne_of_lt (hlS q hq))
    · rw [List.concat_eq_append] at *
      first | (refine' ex3 (intsConcat hw) ?_; intro _ _ _ _ ) | (refine' ex2 (intsConcat hw) ?_; intro _ _ h9e; walk_at "sp 2") | (refine' ex1 (intsConcat hw) ?_; intro _ h9e; walk_at "sp 3") | (refine' and4 (intsConcat hw) ?_; intro _ _ _ _ ) | (refine' and3 (intsConcat hw) ?_; intro _ _ h9e; walk_at "sp 2") | (refine' and2 (intsConcat hw) ?_; intro _ h9e; walk_at "sp 3") | (obtain ⟨_, _, _, _⟩ := intsConcat hw)
      rename_i wv' tc e9x871 r9x872
      subst e9x871
      have hw' := r9x872; clear r9x872
      have hst' := hst.pop
      have hcm : c < many := hst'.2.2
      simp only [List.length_append, List.length_cons, List.length_nil] at hwv hwl
      (try (with_reducible show wpAny _ _ _ _ _ _))
      (try k_fold)
      k_steps
      · have q9 : (wv' ++ [Value.int (c : Int) tc]).isEmpty = true := by assumption
        simp at q9
      refine ⟨?_⟩
      clear hret
      refine forMem (stat := led) (var₀ := [(Wa, _), (D', _)]) hrm (by assumption) (by assumption) (fun i m nx => ∃ st : St, Keeps [Str.ofString "rule", Str.ofString "name", Str.ofString "goal"] _ m ∧ EJ Wa D' 0 [] [] st nx ∧ StOk many st ∧ st = (List.range i).foldl (ruleStep rs c) (bs, ws'))
        (by rfl) (by rfl) (fun _ => rfl) (by passes_own) ?hi (by rfl) ?off ⟨(bs, ws'), .refl, ⟨_, _, _, rfl, hb, hw'⟩, hst'.1, rfl⟩ ?turn2 ?done2
      (case off => (intro p hp; rcases List.mem_cons.mp hp with rfl | hp; exact (Nat.ne_of_lt (hlW _ hrm)).symm; rw [List.mem_singleton.mp hp]; exact (Nat.ne_of_lt (hlS _ hrm)).symm))
      (case hi =>
        (try (with_reducible show wpAny _ _ _ _ _ _))
        (try k_fold)
        k_steps
        refine' ⟨_, _, rfl, rfl, ?F, ?N⟩
        (case F => k_asm)
        (case N => walk_at "k_news"))
      (case turn2 =>
        intro i v m₁ nx h tk I oI hv hI ho hst2 hJ9 F1 N1
        (with_reducible show wpAny _ _ _ _ _ _)
        k_fold
        first | (refine' ex4 (hJ9) ?_; intro _ _ _ _ _ ) | (refine' ex3 (hJ9) ?_; intro _ _ _ h9e; walk_at "sp 2") | (refine' ex2 (hJ9) ?_; intro _ _ h9e; walk_at "sp 3") | (refine' ex1 (hJ9) ?_; intro _ h9e; walk_at "sp 4") | (refine' and4 (hJ9) ?_; intro _ _ _ h9e; walk_at "sp 2") | (refine' and3 (hJ9) ?_; intro _ _ h9e; walk_at "sp 3") | (refine' and2 (hJ9) ?_; intro _ h9e; walk_at "sp 4") | (obtain ⟨_, _, _, _, _⟩ := hJ9)
        rename_i st2 hK2 n9x875 hok2 he2
        try (clear hJ9)
        first | (refine' ex4 (n9x875) ?_; intro _ _ _ _ _ ) | (refine' ex3 (n9x875) ?_; intro _ _ _ h9e; walk_at "sp 2") | (refine' ex2 (n9x875) ?_; intro _ _ h9e; walk_at "sp 3") | (refine' ex1 (n9x875) ?_; intro _ h9e; walk_at "sp 4") | (refine' and4 (n9x875) ?_; intro _ _ _ h9e; walk_at "sp 2") | (refine' and3 (n9x875) ?_; intro _ _ h9e; walk_at "sp 3") | (refine' and2 (n9x875) ?_; intro _ h9e; walk_at "sp 4") | (obtain ⟨_, _, _, _, _⟩ := n9x875)
        rename_i wv2 kw2 vs2 e9x881 r9x882
        try (clear n9x875)
        subst e9x881
        obtain ⟨hb2, hw2⟩ := r9x882
        obtain ⟨u2, rfl⟩ := canon0 hK2
        obtain ⟨bs2, ws2⟩ := st2
        dsimp only [List.nil_append, List.cons_append] at N1 hb2 hw2 ho
        have hil := (List.getElem?_eq_some_iff.mp hv).1
        obtain ⟨r, hr⟩ : ∃ r, rs[i]? = some r := ⟨rs[i]'(by omega), by simp⟩
        obtain ⟨v2, hv2, hR⟩ := hra i r hr
        obtain rfl : v2 = v := by rw [hv] at hv2; exact (Option.some.inj hv2).symm
        first | (refine' ex12 (id hR) ?_; intro _ _ _ _ _ _ _ _ _ _ _ _ h9e; walk_at "sp 9") | (refine' ex8 (id hR) ?_; intro _ _ _ _ _ _ _ _ h9e; walk_at "sp 13") | (refine' ex6 (id hR) ?_; intro _ _ _ _ _ _ h9e; walk_at "sp 15") | (refine' ex4 (id hR) ?_; intro _ _ _ _ h9e; walk_at "sp 17") | (refine' ex3 (id hR) ?_; intro _ _ _ h9e; walk_at "sp 18") | (refine' ex2 (id hR) ?_; intro _ _ h9e; walk_at "sp 19") | (refine' ex1 (id hR) ?_; intro _ h9e; walk_at "sp 20") | (refine' and6 (id hR) ?_; intro _ _ _ _ _ h9e; walk_at "sp 16") | (refine' and4 (id hR) ?_; intro _ _ _ h9e; walk_at "sp 18") | (refine' and3 (id hR) ?_; intro _ _ h9e; walk_at "sp 19") | (refine' and2 (id hR) ?_; intro _ h9e; walk_at "sp 20") | (obtain ⟨_, _, _, _, _, _, _, _, _, _, _, _, _, _, _, _, _, _, _, _, _⟩ := id hR)
        rename_i xr dr nr slr q1 q2 q3 q4 q5 pl q6 q7 pv q8 q9 st q10 q11 q12 e9x902 r9x903
        subst e9x902
        first | (refine' ex4 (r9x903) ?_; intro _ _ _ _ _ ) | (refine' ex3 (r9x903) ?_; intro _ _ _ h9e; walk_at "sp 2") | (refine' ex2 (r9x903) ?_; intro _ _ h9e; walk_at "sp 3") | (refine' ex1 (r9x903) ?_; intro _ h9e; walk_at "sp 4") | (refine' and4 (r9x903) ?_; intro _ _ _ h9e; walk_at "sp 2") | (refine' and3 (r9x903) ?_; intro _ _ h9e; walk_at "sp 3") | (refine' and2 (r9x903) ?_; intro _ h9e; walk_at "sp 4") | (obtain ⟨_, _, _, _, _⟩ := r9x903)
        rename_i mr1 mr2 d9x906 d9x907 d9x908
        try (clear r9x903)
        clear d9x906
        clear d9x907
        clear d9x908
        have hbl2 : bs2.length = many := hok2.len
        have hwl2 : ws2.length ≤ many := hok2.wlt
        have hwv2 : wv2.length = ws2.length := by rw [hw2.length]; exact List.length_map ..
        have hWI : @Ne Nat Wa I := (ho _ (.head _)).1
        have hSI : @Ne Nat D' I := (ho _ (.tail _ (.head _))).1
        (try (with_reducible show wpAny _ _ _ _ _ _))
        (try k_fold)
        k_steps
        · refine ⟨?_⟩
          refine For_invX g' ?_ (fun _ => rfl) (by passes_own)
          (try (with_reducible show wpAny _ _ _ _ _ _))
          (try k_fold)
          k_steps
          refine ⟨?_⟩
          have hcl9 : vs9.length = r.goals.length := o9.length
          have hDI : @Ne Nat D9 I := fun e => l9 _ (.head _) _ (.head _) e.symm
          have hDW : @Ne Nat D9 Wa := fun e => l9 _ (.tail _ (.head _)) _ (.head _) e.symm
          have hDS : @Ne Nat D9 D' := fun e => l9 _ (.tail _ (.tail _ (.head _))) _ (.head _) e.symm
          have hDl : ∀ p ∈ led, @Ne Nat p.1 D9 := fun p hp => l9 p (.tail _ (.tail _ (.tail _ hp))) _ (.head _)
          refine iterL (l := D9) (vs := vs9) (fun t m nx => ∃ st : St, Keeps [Str.ofString "name", Str.ofString "goal"] _ m ∧ EJ Wa D' 0 [(I, oI)] led st nx ∧ StOk many st ∧ st = (r.goals.take t).foldl goalStep (bs2, ws2))
            (by rfl) (by rfl) (by rfl) (by k_asm) (by k_asm) (fun q hq => l9 q hq _ (.head _)) ⟨(bs2, ws2), .refl, ⟨_, _, _, rfl, hb2, hw2⟩, hok2, rfl⟩ ?turn3 ?done3
          (case turn3 =>
            intro t3 v m₁ nx h tk I2 oI2 hv3 hI2 ho2 hJ9 F1 N1
            (with_reducible show wpAny _ _ _ _ _ _)
            k_fold
            first | (refine' ex4 (hJ9) ?_; intro _ _ _ _ _ ) | (refine' ex3 (hJ9) ?_; intro _ _ _ h9e; walk_at "sp 2") | (refine' ex2 (hJ9) ?_; intro _ _ h9e; walk_at "sp 3") | (refine' ex1 (hJ9) ?_; intro _ h9e; walk_at "sp 4") | (refine' and4 (hJ9) ?_; intro _ _ _ h9e; walk_at "sp 2") | (refine' and3 (hJ9) ?_; intro _ _ h9e; walk_at "sp 3") | (refine' and2 (hJ9) ?_; intro _ h9e; walk_at "sp 4") | (obtain ⟨_, _, _, _, _⟩ := hJ9)
            rename_i st3 hK3 n9x911 hok3 he3
            try (clear hJ9)
            first | (refine' ex4 (n9x911) ?_; intro _ _ _ _ _ ) | (refine' ex3 (n9x911) ?_; intro _ _ _ h9e; walk_at "sp 2") | (refine' ex2 (n9x911) ?_; intro _ _ h9e; walk_at "sp 3") | (refine' ex1 (n9x911) ?_; intro _ h9e; walk_at "sp 4") | (refine' and4 (n9x911) ?_; intro _ _ _ h9e; walk_at "sp 2") | (refine' and3 (n9x911) ?_; intro _ _ h9e; walk_at "sp 3") | (refine' and2 (n9x911) ?_; intro _ h9e; walk_at "sp 4") | (obtain ⟨_, _, _, _, _⟩ := n9x911)
            rename_i wv3 kw3 vs3 e9x917 r9x918
            try (clear n9x911)
            subst e9x917
            obtain ⟨hb3, hw3⟩ := r9x918
            obtain ⟨u3, rfl⟩ := canon0 hK3
            obtain ⟨bs3, ws3⟩ := st3
            dsimp only [List.nil_append, List.cons_append] at N1 hb3 hw3 ho2
            first | (refine' ex3 (o9.get hv3) ?_; intro _ _ _ _ ) | (refine' ex2 (o9.get hv3) ?_; intro _ _ h9e; walk_at "sp 2") | (refine' ex1 (o9.get hv3) ?_; intro _ h9e; walk_at "sp 3") | (refine' and4 (o9.get hv3) ?_; intro _ _ _ _ ) | (refine' and3 (o9.get hv3) ?_; intro _ _ h9e; walk_at "sp 2") | (refine' and2 (o9.get hv3) ?_; intro _ h9e; walk_at "sp 3") | (obtain ⟨_, _, _, _⟩ := o9.get hv3)
            rename_i g hg tg e9x922
            subst e9x922
            have hgm : g < many := (hok r (List.mem_of_getElem? hr)).goals g (List.mem_of_getElem? hg)
            have hbl3 : bs3.length = many := hok3.len
            have hwl3 : ws3.length ≤ many := hok3.wlt
            have hwv3 : wv3.length = ws3.length := by rw [hw3.length]; exact List.length_map ..
            have hWI2 : @Ne Nat Wa I2 := (ho2 _ (.tail _ (.head _))).1
            have hSI2 : @Ne Nat D' I2 := (ho2 _ (.tail _ (.tail _ (.head _)))).1
            have hok3' := (goalStep_ok hok3 hgm).1
            (try (with_reducible show wpAny _ _ _ _ _ _))
            (try k_fold)
            k_steps
            · have e3 := goalStep_no (ws := ws3) (g := g) (by assumption)
              refine' CutI.mk ⟨_, _, _, _, rfl, ?F, ?N, ho2, (bs3, ws3), ?K, ⟨_, _, _, rfl, hb3, hw3⟩, hok3, ?e⟩
              (case F => k_asm)
              (case N => walk_at "k_news")
              (case K => walk_at "k_keeps")
              (case e => (rw [goals_succ hg, ← he3, e3]))
            · have e3 := goalStep_yes (ws := ws3) (g := g) (by assumption)
              rw [e3] at hok3'
              have hw3' := intsSnoc hw3 g t9
              refine' CutI.mk ⟨_, _, _, [(I, oI)] ++ (Wa, listOf (wv3 ++ [Value.int (g : Int) t9]).toArray (kw3 + 1)) :: (D', listOf (vs3.set g (Value.bool true)).toArray 0) :: led, rfl, ?F, ?N, ?o, (bs3.set g true, ws3 ++ [g]), ?K, ⟨_, _, _, rfl, kbo_setB hb3 g, hw3'⟩, hok3', ?e⟩
              (case F => k_asm)
              (case N => walk_at "k_news")
              (case o => exact offMap (P := fun x => @Ne Nat x I2 ∧ @Ne Nat x D9) ho2 rfl)
              (case K => walk_at "k_keeps")
              (case e => (rw [goals_succ hg, ← he3, e3])))
          (case done3 =>
            intro m₁ nx h tk q9x923
            first | (refine' ex4 (q9x923) ?_; intro _ _ _ _ _ ) | (refine' ex3 (q9x923) ?_; intro _ _ _ h9e; walk_at "sp 2") | (refine' ex2 (q9x923) ?_; intro _ _ h9e; walk_at "sp 3") | (refine' ex1 (q9x923) ?_; intro _ h9e; walk_at "sp 4") | (refine' and4 (q9x923) ?_; intro _ _ _ h9e; walk_at "sp 2") | (refine' and3 (q9x923) ?_; intro _ _ h9e; walk_at "sp 3") | (refine' and2 (q9x923) ?_; intro _ h9e; walk_at "sp 4") | (obtain ⟨_, _, _, _, _⟩ := q9x923)
            rename_i st3 hK3 n9x926 hok3 he3
            try (clear q9x923)
            first | (refine' ex4 (n9x926) ?_; intro _ _ _ _ _ ) | (refine' ex3 (n9x926) ?_; intro _ _ _ h9e; walk_at "sp 2") | (refine' ex2 (n9x926) ?_; intro _ _ h9e; walk_at "sp 3") | (refine' ex1 (n9x926) ?_; intro _ h9e; walk_at "sp 4") | (refine' and4 (n9x926) ?_; intro _ _ _ h9e; walk_at "sp 2") | (refine' and3 (n9x926) ?_; intro _ _ h9e; walk_at "sp 3") | (refine' and2 (n9x926) ?_; intro _ h9e; walk_at "sp 4") | (obtain ⟨_, _, _, _, _⟩ := n9x926)
            rename_i wv3 kw3 vs3 e9x932 r9x933
            try (clear n9x926)
            subst e9x932
            obtain ⟨hb3, hw3⟩ := r9x933
            intro F1 N1 ho2
            obtain ⟨u3, rfl⟩ := canon0 hK3
            rw [hcl9, List.take_length] at he3
            have hys := ruleStep_yes (c := c) (st := (bs2, ws2)) hr (by simp_all)
            (try (with_reducible show wpAny _ _ _ _ _ _))
            (try k_fold)
            k_steps
            refine' CutI.mk ⟨_, _, _, _, rfl, ?F, ?N, ?o, st3, ?K, ⟨_, _, _, rfl, hb3, hw3⟩, hok3, ?e⟩
            (case F => k_asm)
            (case N => walk_at "k_news")
            (case o => exact offMap (P := fun x => @Ne Nat x I ∧ @Ne Nat x rl) ho rfl)
            (case K => exact Keeps.trans (Keeps.set (by rfl) .ovr) (hK3.widen (by rfl)))
            (case e => (rw [foldl_range_succ, ← he2, hys, ← he3])))
        · have hno := ruleStep_no (c := c) (st := (bs2, ws2)) hr (by simp_all)
          refine' CutI.mk ⟨_, _, _, _, rfl, ?F, ?N, ho, (bs2, ws2), ?K, ⟨_, _, _, rfl, hb2, hw2⟩, hok2, ?e⟩
          (case F => k_asm)
          (case N => walk_at "k_news")
          (case K => walk_at "k_keeps")
          (case e => (rw [foldl_range_succ, ← he2, hno]))
        · have hno := ruleStep_no (c := c) (st := (bs2, ws2)) hr (by simp_all)
          refine' CutI.mk ⟨_, _, _, _, rfl, ?F, ?N, ho, (bs2, ws2), ?K, ⟨_, _, _, rfl, hb2, hw2⟩, hok2, ?e⟩
          (case F => k_asm)
          (case N => walk_at "k_news")
          (case K => walk_at "k_keeps")
          (case e => (rw [foldl_range_succ, ← he2, hno])))
      (case done2 =>
        intro m₁ nx h tk q9x934
        first | (refine' ex4 (q9x934) ?_; intro _ _ _ _ _ ) | (refine' ex3 (q9x934) ?_; intro _ _ _ h9e; walk_at "sp 2") | (refine' ex2 (q9x934) ?_; intro _ _ h9e; walk_at "sp 3") | (refine' ex1 (q9x934) ?_; intro _ h9e; walk_at "sp 4") | (refine' and4 (q9x934) ?_; intro _ _ _ h9e; walk_at "sp 2") | (refine' and3 (q9x934) ?_; intro _ _ h9e; walk_at "sp 3") | (refine' and2 (q9x934) ?_; intro _ h9e; walk_at "sp 4") | (obtain ⟨_, _, _, _, _⟩ := q9x934)
        rename_i st2 hK2 n9x937 hok2 he2
        try (clear q9x934)
        first | (refine' ex4 (n9x937) ?_; intro _ _ _ _ _ ) | (refine' ex3 (n9x937) ?_; intro _ _ _ h9e; walk_at "sp 2") | (refine' ex2 (n9x937) ?_; intro _ _ h9e; walk_at "sp 3") | (refine' ex1 (n9x937) ?_; intro _ h9e; walk_at "sp 4") | (refine' and4 (n9x937) ?_; intro _ _ _ h9e; walk_at "sp 2") | (refine' and3 (n9x937) ?_; intro _ _ h9e; walk_at "sp 3") | (refine' and2 (n9x937) ?_; intro _ h9e; walk_at "sp 4") | (obtain ⟨_, _, _, _, _⟩ := n9x937)
        rename_i wv2 kw2 vs2 e9x943 r9x944
        try (clear n9x937)
        subst e9x943
        obtain ⟨hb2, hw2⟩ := r9x944
        intro F1 N1 ho
        (try (with_reducible show wpAny _ _ _ _ _ _))
        (try k_fold)
        k_steps
        rw [hrl] at he2
        have hpop := rulesStep_ok hok (c := c) (List.range rs.length) hst'.1
        rw [← he2] at hpop
        refine' ⟨rfl, _, _, _, _, meas st2, rfl, F1, N1, ?lt, st2, ?K, ⟨_, _, _, rfl, hb2, hw2⟩, hok2, ?re, rfl⟩
        (case lt => (rw [hpop.2]; exact hst'.2.1))
        (case K => exact Keeps.trans (Keeps.set (by rfl) .ovr) (hK2.widen (by rfl)))
        (case re => (rw [he2]; exact .pop hre))))

/-- a warning: line, word, title -/
abbrev Warn := Nat × Str × Str
def WarnAt (led : Led) (v : Value) (x : Warn) : Prop := ∃ a k t1 t2 t3, v = .ref a ∧ (a, tupO #[.int (x.1 : Int) t1, .str x.2.1 t2, .str x.2.2 t3] k) ∈ led
def rowWarn (rs : List Row) (come : List Bool) (n : Nat) : List Warn := match rs[n]? with
  | none => []
  | some r => if (r.places.any fun p => come.getD p false) = false then [(10 * n + 10, Str.ofString "never live", Str.ofString "")] else match r.sort with
    | .endS => (r.places.filter fun p => !isFirst rs n p).map fun p => (10 * n + 10, Str.ofString "second end", titleN p)
    | .good => []
    | .bad => [(10 * n + 10, Str.ofString "never matched", Str.ofString "")]
def condWarn (come : List Bool) (n : Nat) : List Warn := if come.getD n false then [] else [(0, Str.ofString "never entered", titleN n)]
def lawWarn (rs : List Row) (come : List Bool) (many : Nat) : List Warn := (List.range many).flatMap (condWarn come) ++ (List.range rs.length).flatMap (rowWarn rs come)
theorem WarnAt.mono {led led' : Led} {v : Value} {x : Warn} (hs : ∀ p ∈ led, p ∈ led') (h : WarnAt led v x) : WarnAt led' v x := by
  first | (refine' ex6 (h) ?_; intro _ _ _ _ _ _ _ ) | (refine' ex4 (h) ?_; intro _ _ _ _ h9e; walk_at "sp 3") | (refine' ex3 (h) ?_; intro _ _ _ h9e; walk_at "sp 4") | (refine' ex2 (h) ?_; intro _ _ h9e; walk_at "sp 5") | (refine' ex1 (h) ?_; intro _ h9e; walk_at "sp 6") | (refine' and6 (h) ?_; intro _ _ _ _ _ h9e; walk_at "sp 2") | (refine' and4 (h) ?_; intro _ _ _ h9e; walk_at "sp 4") | (refine' and3 (h) ?_; intro _ _ h9e; walk_at "sp 5") | (refine' and2 (h) ?_; intro _ h9e; walk_at "sp 6") | (obtain ⟨_, _, _, _, _, _, _⟩ := h)
  rename_i a k t1 t2 t3 e hm
  try (clear h)
  exact ⟨a, k, t1, t2, t3, e, hs _ hm⟩
/-- the list of warnings as it grows: its objects W above what stood -/
structure WSt (D : Addr) (base W : Led) (vs : List Value) (ws : List Warn) : Prop where
  rel : All2 (WarnAt W) vs ws
  off : ∀ p ∈ W ++ base, @Ne Nat p.1 D
  ord : ∀ p ∈ W, ∀ q ∈ base, @Ne Nat q.1 p.1
theorem WSt.push {D T : Addr} {base W : Led} {vs : List Value} {ws : List Warn} {x : Warn} {t1 t2 t3 : Tok} {k : Nat} (h : WSt D base W vs ws) (hT : AllLt T (W ++ base)) (hD : @LT.lt Nat _ D T) :
    WSt D base ((T, tupO #[.int (x.1 : Int) t1, .str x.2.1 t2, .str x.2.2 t3] k) :: W) (vs ++ [.ref T]) (ws ++ [x]) := by
  refine ⟨(h.rel.imp fun _ _ => WarnAt.mono fun _ hp => .tail _ hp).append (.cons ⟨T, k, t1, t2, t3, rfl, .head _⟩ .nil), ?_, ?_⟩
  · intro p hp
    rcases List.mem_cons.mp hp with rfl | hp
    · exact (Nat.ne_of_lt hD).symm
    · exact h.off p hp
  · intro p hp q hq
    rcases List.mem_cons.mp hp with rfl | hp
    · exact Nat.ne_of_lt (ktn_ltOf hT q (List.mem_append.mpr (.inr hq)))
    · exact h.ord p hp q hq
theorem flat_succ {α : Type} (f : Nat → List α) (n : Nat) : (List.range (n + 1)).flatMap f = (List.range n).flatMap f ++ f n := by
  rw [List.range_succ, List.flatMap_append]; simp
theorem condWarn_len (c : List Bool) (n : Nat) : ((List.range n).flatMap (condWarn c)).length ≤ n := by
  induction n with
  | zero => simp
  | succ n ih =>
    rw [flat_succ, List.length_append]
    have : (condWarn c n).length ≤ 1 := by unfold condWarn; split <;> simp
    omega
theorem rowWarn_len (rs : List Row) (hp : ∀ r ∈ rs, r.places.length < 100) (c : List Bool) (n : Nat) : ((List.range n).flatMap (rowWarn rs c)).length ≤ 100 * n := by
  induction n with
  | zero => simp
  | succ n ih =>
    rw [flat_succ, List.length_append]
    have : (rowWarn rs c n).length ≤ 100 := by
      unfold rowWarn
      split
      · simp
      · rename_i r q
        have := hp r (List.mem_of_getElem? q)
        split
        · simp
        · split
          · have := List.length_filter_le (fun p => !isFirst rs n p) r.places
            rw [List.length_map]
            omega
          · simp
          · simp
    omega
/-- what the list of warnings is within a loop's ledger -/
def WJ (D : Addr) (base : Led) (ws : List Warn) (nx : Led) : Prop := ∃ vs k W, nx = (D, listOf vs.toArray k) :: (W ++ base) ∧ WSt D base W vs ws
theorem condWarn_no {c : List Bool} {n : Nat} (h : c.getD n false = true) : (List.range (n + 1)).flatMap (condWarn c) = (List.range n).flatMap (condWarn c) := by
  rw [flat_succ, condWarn, if_pos h, List.append_nil]
theorem condWarn_yes {c : List Bool} {n : Nat} (h : c.getD n false = false) : (List.range (n + 1)).flatMap (condWarn c) = (List.range n).flatMap (condWarn c) ++ [(0, Str.ofString "never entered", titleN n)] := by
  rw [flat_succ, condWarn, if_neg (by simpa using h)]
theorem rowWarn_live {rs : List Row} {c : List Bool} {n : Nat} {r : Row} (hr : rs[n]? = some r) (h : (r.places.any fun p => c.getD p false) = false) : (List.range (n + 1)).flatMap (rowWarn rs c) = (List.range n).flatMap (rowWarn rs c) ++ [(10 * n + 10, Str.ofString "never live", Str.ofString "")] := by
  rw [flat_succ, rowWarn, hr]; simp only [h, if_true]
theorem rowWarn_end {rs : List Row} {c : List Bool} {n : Nat} {r : Row} (hr : rs[n]? = some r) (h : (r.places.any fun p => c.getD p false) = true) (hs : r.sort = .endS) : (List.range (n + 1)).flatMap (rowWarn rs c) = (List.range n).flatMap (rowWarn rs c) ++ (r.places.filter fun p => !isFirst rs n p).map fun p => (10 * n + 10, Str.ofString "second end", titleN p) := by
  rw [flat_succ, rowWarn, hr]; simp only [h, hs]; simp
theorem rowWarn_good {rs : List Row} {c : List Bool} {n : Nat} {r : Row} (hr : rs[n]? = some r) (h : (r.places.any fun p => c.getD p false) = true) (hs : r.sort = .good) : (List.range (n + 1)).flatMap (rowWarn rs c) = (List.range n).flatMap (rowWarn rs c) := by
  rw [flat_succ, rowWarn, hr]; simp only [h, hs]; simp
theorem rowWarn_bad {rs : List Row} {c : List Bool} {n : Nat} {r : Row} (hr : rs[n]? = some r) (h : (r.places.any fun p => c.getD p false) = true) (hs : r.sort = .bad) : (List.range (n + 1)).flatMap (rowWarn rs c) = (List.range n).flatMap (rowWarn rs c) ++ [(10 * n + 10, Str.ofString "never matched", Str.ofString "")] := by
  rw [flat_succ, rowWarn, hr]; simp only [h, hs]; simp
theorem filt_succ {α : Type} {ps : List Nat} {f : Nat → Bool} {g : Nat → α} {i p : Nat} (hp : ps[i]? = some p) : ((ps.take (i + 1)).filter f).map g = ((ps.take i).filter f).map g ++ (if f p then [g p] else []) := by
  rw [List.take_add_one, hp, List.filter_append]
  simp only [Option.toList_some, List.map_append]
  cases h : f p <;> simp [List.filter, h]
def WV (D : Addr) (base : Led) (ws : List Warn) (nx : Led) : Prop := ∃ vs k W, nx = (D, listOf vs.toArray k) :: W ∧ WSt D base W vs ws
theorem WSt.pushE {D T : Addr} {base W : Led} {vs : List Value} {ws : List Warn} (x : Warn) {z : Int} {t1 t2 t3 : Tok} {k : Nat} (h : WSt D base W vs ws) (hT : AllLt T (W ++ base)) (hD : @LT.lt Nat _ D T) (hz : z = (x.1 : Int)) :
    WSt D base ((T, tupO #[.int z t1, .str x.2.1 t2, .str x.2.2 t3] k) :: W) (vs ++ [.ref T]) (ws ++ [x]) := by subst hz; exact h.push hT hD

section
variable {prog : Program} {w : World} {A : Around} {E : Value → Shared → Prop} {s : Shared} {env : Env} {h₀ : Heap} {x : Str} {body : List Stmt} {Q : Flow → Shared → Prop}
/-- a for-loop over a tuple of the ledger -/
theorem forTup {px pos : Pos} {iter : Expr} {l : Addr} {vs : List Value} {k : Nat} {m₀ : Str → Option Value} {nx₀ : Led} (F : Fr h₀ env.locals s.heap m₀)
    (J : Nat → (Str → Option Value) → Led → Prop)
    (hx : env.kindOf x = some .local) (hp : (env.scope.kind == .class || (env.scope.kind == .module && env.locals != env.globals)) = false) (hs : ∀ x, foldedSetIterable iter env x = pure x) (hE : PassesOwn (model prog w) A env E)
    (hi : wpAny (model prog w) A (eval iter env) (fun v s' => CutI (∃ h tk, v = .ref l ∧ s' = { s with heap := h, toks := tk } ∧ Fr h₀ env.locals h m₀ ∧ News h₀ env.locals h nx₀ ∧ (l, tupO vs.toArray k) ∈ nx₀)) E s)
    (hh : A.handled = none) (hj : J 0 m₀ nx₀) (keep : ∀ i m nx, J i m nx → (l, tupO vs.toArray k) ∈ nx)
    (turn : ∀ i v m₁ nx h tk I oI, vs[i]? = some v → (∀ p ∈ nx, @Ne Nat p.1 I) → J i m₁ nx → Fr h₀ env.locals h (fun y => if y = x then some v else m₁ y) → News h₀ env.locals h ((I, oI) :: nx) →
      wpAny (model prog w) A (execs body env) (ItPostR h₀ env.locals I oI (J (i + 1)) { s with heap := h, toks := tk } Q) E { s with heap := h, toks := tk })
    (done : ∀ m₁ nx h tk, J vs.length m₁ nx → Fr h₀ env.locals h m₁ → News h₀ env.locals h nx → Q .next { s with heap := h, toks := tk }) :
    wpAny (model prog w) A (exec (.For (.Name x px) iter body [] pos) env) Q E s := by
  refine For_invX h₀ (wpAny_mono hi (fun v s' hv => ?_) fun _ _ e => e) hs hE
  first | (refine' ex3 (hv.out) ?_; intro _ _ _ _ ) | (refine' ex2 (hv.out) ?_; intro _ _ h9e; walk_at "sp 2") | (refine' ex1 (hv.out) ?_; intro _ h9e; walk_at "sp 3") | (refine' and4 (hv.out) ?_; intro _ _ _ _ ) | (refine' and3 (hv.out) ?_; intro _ _ h9e; walk_at "sp 2") | (refine' and2 (hv.out) ?_; intro _ h9e; walk_at "sp 3") | (obtain ⟨_, _, _, _⟩ := hv.out)
  rename_i h tk e9x954 r9x955
  subst e9x954
  first | (refine' ex1 (r9x955) ?_; intro _ _ ) | (refine' and2 (r9x955) ?_; intro _ _ ) | (obtain ⟨_, _⟩ := r9x955)
  rename_i e9x956 r9x957
  try (clear r9x955)
  subst e9x956
  obtain ⟨F', N', hm⟩ := r9x957
  have hl : h.IsTuple l vs.toArray := ⟨_, (N' _ hm).1, rfl, k, rfl⟩
  refine wpAny_pyIter_tuple hl (iterG (s := { s with heap := h, toks := tk }) J (tup_walks hh (Nat.ne_of_lt (Heap.lt_size (N' _ hm).1)) vs) ⟨⟨_, Heap.get?_push_size _ rfl, rfl, rfl⟩, hl.push _⟩ (fun i h e => ?_) (fun b hb => ?_) F' N' hj ?_ done)
  · obtain ⟨o, e, _⟩ := e.1
    exact ⟨o, e⟩
  · rcases List.mem_cons.mp hb with e | e
    · exact .inl e
    · rw [List.mem_singleton.mp e]; exact .inr ⟨_, keep⟩
  · intro i v m₁ nx h2 tk oI hi hP ho hJ F N
    exact atL hx hp F N fun h' tk' F' N' => turn i v m₁ nx h' tk' _ oI hP ho hJ F' N'
end

theorem words_warn2_1 : True := by
  k_with "k_all" => assumption
  k_with "con" => ((with_reducible refine' Con.mono (enteredC _ _ _ _ _ _ _ _ _ _ _ ?ca ?cb ?cc ?cd) ?sb); (case ca => assumption); (case cb => assumption); (case cc => assumption); (case cd => assumption); (case sb => walk_at "my sub"))
  k_with "con out" => (obtain ⟨D9, k9, e9, vs9, e9', bs9, o9, r9⟩ := o9; subst e9 e9'; (try dsimp only [List.cons_append, List.nil_append] at N9))
  k_with "call builtin:any" => (k_here; (with_reducible show wpAny _ _ (call (Value.builtin "any") [Value.ref _]) _ _ _); k_dflt (refine' LSm.any_bools ?F ?N ?hh ?l ?b ?_; (case F => k_asm); (case N => k_asm); (case hh => rfl); (case l => (refine' isListN ?n ?m; (case n => k_asm); (case m => k_mem))); (case b => assumption)); intro h' tk' F' N'; (try dsimp only))
  k_with "eval ListComp" => (k_here; (with_reducible show wpAny _ _ (eval (PySem.Expr.ListComp _ [⟨_, PySem.Expr.Attribute _ _ _, [], 0⟩] _ _) _) _ _ _); k_dflt (refine ListComp_Ut (_F₀ := by k_asm) (by with_unfolding_all rfl) (by decide) (by rfl) (by decide) (by rfl) ?_); walk_say "MINE")
  trivial
theorem reach_ok {rs : List Row} {many : Nat} (hok : ∀ r ∈ rs, RowOk many r) (hm : 1 ≤ many) {st : St} (h : Reach rs many st) : StOk many st := by
  induction h with
  | init =>
    refine ⟨?_, ?_, ?_⟩
    · simp only [List.length_cons, List.length_replicate]; omega
    · intro w hw; rw [List.mem_singleton.mp hw]; omega
    · simp [meas, List.count_replicate]; omega
  | pop _ ih => exact (rulesStep_ok hok _ ih.pop.1).1
theorem warningsC (w : World) (f cl : Addr) (cvs : List Value) (ck : Nat) (rl : Addr) (rvs : List Value) (rk many : Nat) (rs : List Row) (sub : Led) (hf : FileAt sub f cl cvs ck rl rvs rk many rs) (hok : ∀ r ∈ rs, RowOk many r) (hm2 : 2 ≤ many) (hm4 : many ≤ 4) :
    Con w 557 [.ref f] 480 8200 sub (fun x nw _ => ∃ D k, x = .ref D ∧ ∃ vs, ∃ W, nw = (D, listOf (List.toArray vs) k) :: W ∧ ∃ bs, Reach rs many (bs, []) ∧ All2 (WarnAt W) vs (lawWarn rs bs many)) := by
  intro mean mg mb dp un gd cn cs a0 ccd cl0 outer A₀ base h₀ L m s Q E led B F X N hsub T hk hdp hu hret
  revert X; k_fill; intro X
  have fX9 : FoldX := ⟨⟩
  have hM9 : HoldMark := ⟨⟩
  replace hf := hf.mono hsub
  first | (refine' ex2 (id hf) ?_; intro _ _ _ ) | (refine' ex1 (id hf) ?_; intro _ h9e; walk_at "sp 2") | (refine' and3 (id hf) ?_; intro _ _ _ ) | (refine' and2 (id hf) ?_; intro _ h9e; walk_at "sp 2") | (obtain ⟨_, _, _⟩ := id hf)
  rename_i n9x958 n9x959 n9x960
  first | (refine' ex12 (n9x958) ?_; intro _ _ _ _ _ _ _ _ _ _ _ _ h9e; walk_at "sp 5") | (refine' ex8 (n9x958) ?_; intro _ _ _ _ _ _ _ _ h9e; walk_at "sp 9") | (refine' ex6 (n9x958) ?_; intro _ _ _ _ _ _ h9e; walk_at "sp 11") | (refine' ex4 (n9x958) ?_; intro _ _ _ _ h9e; walk_at "sp 13") | (refine' ex3 (n9x958) ?_; intro _ _ _ h9e; walk_at "sp 14") | (refine' ex2 (n9x958) ?_; intro _ _ h9e; walk_at "sp 15") | (refine' ex1 (n9x958) ?_; intro _ h9e; walk_at "sp 16") | (refine' and6 (n9x958) ?_; intro _ _ _ _ _ h9e; walk_at "sp 12") | (refine' and4 (n9x958) ?_; intro _ _ _ h9e; walk_at "sp 14") | (refine' and3 (n9x958) ?_; intro _ _ h9e; walk_at "sp 15") | (refine' and2 (n9x958) ?_; intro _ h9e; walk_at "sp 16") | (obtain ⟨_, _, _, _, _, _, _, _, _, _, _, _, _, _, _, _, _⟩ := n9x958)
  rename_i d n sl h1 t1 df h2 t2 h3 t3 h4 t4 h5 t5 u5 m1 m2
  try (clear n9x958)
  obtain ⟨hcm, hcl, hca⟩ := n9x959
  first | (refine' ex3 (n9x960) ?_; intro _ _ _ _ ) | (refine' ex2 (n9x960) ?_; intro _ _ h9e; walk_at "sp 2") | (refine' ex1 (n9x960) ?_; intro _ h9e; walk_at "sp 3") | (refine' and4 (n9x960) ?_; intro _ _ _ _ ) | (refine' and3 (n9x960) ?_; intro _ _ h9e; walk_at "sp 2") | (refine' and2 (n9x960) ?_; intro _ h9e; walk_at "sp 3") | (obtain ⟨_, _, _, _⟩ := n9x960)
  rename_i hrm hrl hrt hra
  try (clear n9x960)
  have hcz : cvs.toArray.size = many := by rw [List.size_toArray, hcl]
  refine wpAny_call ?_
  k_dflt walk_at "k_enter"
  rename_i o1 d1
  replace d1 : o1.data = .cell none := d1.trans (by rfl)
  k_steps
  have hDL : @Ne Nat D9 (L' + 1) := fun e => l9 _ (.head _) _ (.head _) e.symm
  k_steps
  refine ⟨?_⟩
  rename_i hx oc dc Df hy lD hz F9 N9
  clear d1
  have hDl : ∀ p ∈ led, @Ne Nat p.1 D9 := fun p hp => l9 p (.tail _ hp) _ (.head _)
  obtain ⟨base, hbase⟩ : ∃ b : Led, b = (D9, listOf vs9.toArray k9) :: (L' + 1, oc) :: led := ⟨_, rfl⟩
  have mS : (D9, listOf vs9.toArray k9) ∈ base := by rw [hbase]; exact .head _
  have mC : (L' + 1, oc) ∈ base := by rw [hbase]; exact .tail _ (.head _)
  have hbl : ∀ p ∈ led, p ∈ base := fun p hp => by rw [hbase]; exact .tail _ (.tail _ hp)
  have hbD : ∀ p ∈ base, @LT.lt Nat _ p.1 Df := by
    rw [hbase]; exact List.forall_mem_cons.mpr ⟨lD.1, List.forall_mem_cons.mpr ⟨lD.2.1, ktn_ltOf lD.2.2⟩⟩
  rw [← hbase] at N9
  clear lD l9 hDL
  have hfb : FileAt base f cl cvs ck rl rvs rk many rs := hf.mono hbl
  have hbsl : bs9.length = many := (reach_ok hok (by omega) r9).len
  replace hcm := hbl _ hcm
  replace hrm := hbl _ hrm
  replace m1 := hbl _ m1
  replace m2 := hbl _ m2
  refine forRange (n := many) F9 (fun i m nx => Keeps [Str.ofString "number"] _ m ∧ WJ Df base ((List.range i).flatMap (condWarn bs9)) nx) (by rfl) (by rfl) (fun _ => rfl) (by passes_own) ?hi (by rfl) (by omega)
    ⟨.refl, [], 0, [], rfl, .nil, fun p hp => Nat.ne_of_lt (hbD p hp), fun _ h => nomatch h⟩ ?turn ?done
  (case hi =>
    clear hret
    (try (with_reducible show wpAny _ _ _ _ _ _))
    (try k_fold)
    k_steps
    refine' ⟨_, _, _, _, _, _, rfl, rfl, ?R, ?F, ?N⟩
    (case R => assumption)
    (case F => k_asm)
    (case N => walk_at "k_news"))
  (case turn =>
    clear hret
    intro i tv m₁ nx h tk I oI hi ho hJ9 F1 N1
    (with_reducible show wpAny _ _ _ _ _ _)
    k_fold
    first | (refine' ex4 (hJ9) ?_; intro _ _ _ _ h9e; walk_at "sp 2") | (refine' ex3 (hJ9) ?_; intro _ _ _ h9e; walk_at "sp 3") | (refine' ex2 (hJ9) ?_; intro _ _ h9e; walk_at "sp 4") | (refine' ex1 (hJ9) ?_; intro _ h9e; walk_at "sp 5") | (refine' and6 (hJ9) ?_; intro _ _ _ _ _ _ ) | (refine' and4 (hJ9) ?_; intro _ _ _ h9e; walk_at "sp 3") | (refine' and3 (hJ9) ?_; intro _ _ h9e; walk_at "sp 4") | (refine' and2 (hJ9) ?_; intro _ h9e; walk_at "sp 5") | (obtain ⟨_, _, _, _, _, _⟩ := hJ9)
    rename_i hK vs k W e9x986 r9x987
    try (clear hJ9)
    subst e9x986
    have hW := r9x987; clear r9x987
    obtain ⟨u', rfl⟩ := canon0 hK
    first | (refine' ex4 (hca i hi) ?_; intro _ _ _ _ h9e; walk_at "sp 2") | (refine' ex3 (hca i hi) ?_; intro _ _ _ h9e; walk_at "sp 3") | (refine' ex2 (hca i hi) ?_; intro _ _ h9e; walk_at "sp 4") | (refine' ex1 (hca i hi) ?_; intro _ h9e; walk_at "sp 5") | (refine' and6 (hca i hi) ?_; intro _ _ _ _ _ _ ) | (refine' and4 (hca i hi) ?_; intro _ _ _ h9e; walk_at "sp 3") | (refine' and3 (hca i hi) ?_; intro _ _ h9e; walk_at "sp 4") | (refine' and2 (hca i hi) ?_; intro _ h9e; walk_at "sp 5") | (obtain ⟨_, _, _, _, _, _⟩ := hca i hi)
    rename_i xc kx tc bc hcv hcm2
    replace hcm2 := hbl _ hcm2
    have hvl := hW.rel.length
    have hcl2 := condWarn_len bs9 i
    have hWo := hW.off
    have hDI : @Ne Nat Df I := ho _ (.head _)
    k_steps
    · refine' CutI.mk ⟨_, _, _, _, rfl, ?F, ?N, ho, ?K, vs, k, W, rfl, ?W⟩
      (case F => k_asm)
      (case N => walk_at "k_news")
      (case K => walk_at "k_keeps")
      (case W => (rw [condWarn_no (by assumption)]; exact hW))
    · rename_i T hT lT
      refine' CutI.mk ⟨_, _, _, (Df, listOf (vs ++ [Value.ref T]).toArray (k + 1)) :: (((T, _) :: W) ++ base), rfl, ?F, ?N, ?o, ?K, vs ++ [.ref T], k + 1, _, rfl, ?W⟩
      (case F => k_asm)
      (case N => walk_at "k_news")
      (case W => (rw [condWarn_yes (by assumption)]; exact hW.push (x := (0, Str.ofString "never entered", titleN i)) lT.2.2 lT.2.1))
      (case o => exact List.forall_mem_cons.mpr ⟨hDI, List.forall_mem_cons.mpr ⟨(Nat.ne_of_lt lT.1).symm, fun p hp => ho p (.tail _ hp)⟩⟩)
      (case K => walk_at "k_keeps"))
  (case done =>
    intro m₁ nx h tk hJ9 F1 N1
    k_steps
    refine ⟨?_⟩
    first | (refine' ex4 (hJ9) ?_; intro _ _ _ _ h9e; walk_at "sp 2") | (refine' ex3 (hJ9) ?_; intro _ _ _ h9e; walk_at "sp 3") | (refine' ex2 (hJ9) ?_; intro _ _ h9e; walk_at "sp 4") | (refine' ex1 (hJ9) ?_; intro _ h9e; walk_at "sp 5") | (refine' and6 (hJ9) ?_; intro _ _ _ _ _ _ ) | (refine' and4 (hJ9) ?_; intro _ _ _ h9e; walk_at "sp 3") | (refine' and3 (hJ9) ?_; intro _ _ h9e; walk_at "sp 4") | (refine' and2 (hJ9) ?_; intro _ h9e; walk_at "sp 5") | (obtain ⟨_, _, _, _, _, _⟩ := hJ9)
    rename_i hK vs k W e9x998 r9x999
    try (clear hJ9)
    subst e9x998
    have hW := r9x999; clear r9x999
    obtain ⟨u', rfl⟩ := canon0 hK
    have hpl : ∀ r ∈ rs, r.places.length < 100 := by
      intro r hr
      obtain ⟨i, hi, rfl⟩ := List.mem_iff_getElem.mp hr
      first | (refine' ex12 (hra i _ (List.getElem?_eq_getElem hi)) ?_; intro _ _ _ _ _ _ _ _ _ _ _ _ h9e; walk_at "sp 14") | (refine' ex8 (hra i _ (List.getElem?_eq_getElem hi)) ?_; intro _ _ _ _ _ _ _ _ h9e; walk_at "sp 18") | (refine' ex6 (hra i _ (List.getElem?_eq_getElem hi)) ?_; intro _ _ _ _ _ _ h9e; walk_at "sp 20") | (refine' ex4 (hra i _ (List.getElem?_eq_getElem hi)) ?_; intro _ _ _ _ h9e; walk_at "sp 22") | (refine' ex3 (hra i _ (List.getElem?_eq_getElem hi)) ?_; intro _ _ _ h9e; walk_at "sp 23") | (refine' ex2 (hra i _ (List.getElem?_eq_getElem hi)) ?_; intro _ _ h9e; walk_at "sp 24") | (refine' ex1 (hra i _ (List.getElem?_eq_getElem hi)) ?_; intro _ h9e; walk_at "sp 25") | (refine' and6 (hra i _ (List.getElem?_eq_getElem hi)) ?_; intro _ _ _ _ _ h9e; walk_at "sp 21") | (refine' and4 (hra i _ (List.getElem?_eq_getElem hi)) ?_; intro _ _ _ h9e; walk_at "sp 23") | (refine' and3 (hra i _ (List.getElem?_eq_getElem hi)) ?_; intro _ _ h9e; walk_at "sp 24") | (refine' and2 (hra i _ (List.getElem?_eq_getElem hi)) ?_; intro _ h9e; walk_at "sp 25") | (obtain ⟨_, _, _, _, _, _, _, _, _, _, _, _, _, _, _, _, _, _, _, _, _, _, _, _, _, _⟩ := hra i _ (List.getElem?_eq_getElem hi))
      rename_i v d9x1001 xr dr nr slr q1 q2 q3 q4 q5 pl q6 q7 pv q8 q9 st q10 q11 q12 d9x1021 d9x1022 d9x1023 n9x1024 d9x1025
      clear d9x1001
      clear d9x1021
      clear d9x1022
      clear d9x1023
      first | (refine' ex4 (n9x1024) ?_; intro _ _ _ _ _ ) | (refine' ex3 (n9x1024) ?_; intro _ _ _ h9e; walk_at "sp 2") | (refine' ex2 (n9x1024) ?_; intro _ _ h9e; walk_at "sp 3") | (refine' ex1 (n9x1024) ?_; intro _ h9e; walk_at "sp 4") | (refine' and4 (n9x1024) ?_; intro _ _ _ h9e; walk_at "sp 2") | (refine' and3 (n9x1024) ?_; intro _ _ h9e; walk_at "sp 3") | (refine' and2 (n9x1024) ?_; intro _ h9e; walk_at "sp 4") | (obtain ⟨_, _, _, _, _⟩ := n9x1024)
      rename_i pvs kp d9x1028 hip hpl
      try (clear n9x1024)
      clear d9x1028
      clear d9x1025
      rw [hip.length] at hpl
      simpa [natI] using hpl
    refine forMem (stat := base) (var₀ := (Df, listOf vs.toArray k) :: W) hrm (by assumption) N1 (fun i m nx => Keeps [Str.ofString "rule", Str.ofString "number"] _ m ∧ WV Df base ((List.range many).flatMap (condWarn bs9) ++ (List.range i).flatMap (rowWarn rs bs9)) nx)
      (by rfl) (by rfl) (fun _ => rfl) (by passes_own) ?hi2 (by rfl) ?off2 ⟨.refl, vs, k, W, rfl, by simpa using hW⟩ ?turn2 ?done2
    (case off2 => exact List.forall_mem_cons.mpr ⟨(Nat.ne_of_lt (hbD _ hrm)).symm, fun p hp e => hW.ord p hp _ hrm e.symm⟩)
    (case hi2 =>
      clear hret
      (try (with_reducible show wpAny _ _ _ _ _ _))
      (try k_fold)
      k_steps
      refine' ⟨_, _, rfl, rfl, ?F, ?N⟩
      (case F => k_asm)
      (case N => walk_at "k_news"))
    (case turn2 =>
      clear hret hW
      intro i v m₁ nx h tk I oI hv hI ho hst hJ9 F1 N1
      (with_reducible show wpAny _ _ _ _ _ _)
      k_fold
      first | (refine' ex4 (hJ9) ?_; intro _ _ _ _ h9e; walk_at "sp 2") | (refine' ex3 (hJ9) ?_; intro _ _ _ h9e; walk_at "sp 3") | (refine' ex2 (hJ9) ?_; intro _ _ h9e; walk_at "sp 4") | (refine' ex1 (hJ9) ?_; intro _ h9e; walk_at "sp 5") | (refine' and6 (hJ9) ?_; intro _ _ _ _ _ _ ) | (refine' and4 (hJ9) ?_; intro _ _ _ h9e; walk_at "sp 3") | (refine' and3 (hJ9) ?_; intro _ _ h9e; walk_at "sp 4") | (refine' and2 (hJ9) ?_; intro _ h9e; walk_at "sp 5") | (obtain ⟨_, _, _, _, _, _⟩ := hJ9)
      rename_i hK vs k W e9x1035 r9x1036
      try (clear hJ9)
      subst e9x1035
      have hW := r9x1036; clear r9x1036
      obtain ⟨u', rfl⟩ := canon0 hK
      dsimp only [List.cons_append] at N1
      have hil := (List.getElem?_eq_some_iff.mp hv).1
      obtain ⟨r, hr⟩ : ∃ r, rs[i]? = some r := ⟨rs[i]'(by omega), by simp⟩
      obtain ⟨v2, hv2, hR⟩ := hra i r hr
      obtain rfl : v2 = v := by rw [hv] at hv2; exact (Option.some.inj hv2).symm
      replace hR := hR.mono hbl
      first | (refine' ex12 (id hR) ?_; intro _ _ _ _ _ _ _ _ _ _ _ _ h9e; walk_at "sp 9") | (refine' ex8 (id hR) ?_; intro _ _ _ _ _ _ _ _ h9e; walk_at "sp 13") | (refine' ex6 (id hR) ?_; intro _ _ _ _ _ _ h9e; walk_at "sp 15") | (refine' ex4 (id hR) ?_; intro _ _ _ _ h9e; walk_at "sp 17") | (refine' ex3 (id hR) ?_; intro _ _ _ h9e; walk_at "sp 18") | (refine' ex2 (id hR) ?_; intro _ _ h9e; walk_at "sp 19") | (refine' ex1 (id hR) ?_; intro _ h9e; walk_at "sp 20") | (refine' and6 (id hR) ?_; intro _ _ _ _ _ h9e; walk_at "sp 16") | (refine' and4 (id hR) ?_; intro _ _ _ h9e; walk_at "sp 18") | (refine' and3 (id hR) ?_; intro _ _ h9e; walk_at "sp 19") | (refine' and2 (id hR) ?_; intro _ h9e; walk_at "sp 20") | (obtain ⟨_, _, _, _, _, _, _, _, _, _, _, _, _, _, _, _, _, _, _, _, _⟩ := id hR)
      rename_i xr dr nr slr q1 q2 q3 q4 q5 pl q6 q7 pv q8 q9 st q10 q11 q12 e9x1056 r9x1057
      subst e9x1056
      first | (refine' ex4 (r9x1057) ?_; intro _ _ _ _ _ ) | (refine' ex3 (r9x1057) ?_; intro _ _ _ h9e; walk_at "sp 2") | (refine' ex2 (r9x1057) ?_; intro _ _ h9e; walk_at "sp 3") | (refine' ex1 (r9x1057) ?_; intro _ h9e; walk_at "sp 4") | (refine' and4 (r9x1057) ?_; intro _ _ _ h9e; walk_at "sp 2") | (refine' and3 (r9x1057) ?_; intro _ _ h9e; walk_at "sp 3") | (refine' and2 (r9x1057) ?_; intro _ h9e; walk_at "sp 4") | (obtain ⟨_, _, _, _, _⟩ := r9x1057)
      rename_i mr1 mr2 n9x1060 hp d9x1062
      try (clear r9x1057)
      first | (refine' ex4 (n9x1060) ?_; intro _ _ _ _ _ ) | (refine' ex3 (n9x1060) ?_; intro _ _ _ h9e; walk_at "sp 2") | (refine' ex2 (n9x1060) ?_; intro _ _ h9e; walk_at "sp 3") | (refine' ex1 (n9x1060) ?_; intro _ h9e; walk_at "sp 4") | (refine' and4 (n9x1060) ?_; intro _ _ _ h9e; walk_at "sp 2") | (refine' and3 (n9x1060) ?_; intro _ _ h9e; walk_at "sp 3") | (refine' and2 (n9x1060) ?_; intro _ h9e; walk_at "sp 4") | (obtain ⟨_, _, _, _, _⟩ := n9x1060)
      rename_i pvs kp hmp hip hplen
      try (clear n9x1060)
      clear d9x1062
      have hvl := hW.rel.length
      have hcl2 := condWarn_len bs9 many
      have hcl3 := rowWarn_len rs hpl bs9 i
      rw [List.length_append] at hvl
      have hWo := hW.off
      have hDI : @Ne Nat Df I := (ho _ (.head _)).1
      have hpn : pvs.length = r.places.length := by rw [hip.length]; exact List.length_map ..
      k_steps
      refine ⟨_, _, _, _, rfl, rfl, by k_asm, by k_asm, by k_mem, Nat.le_trans (Nat.le_of_lt hplen) (Nat.le_of_ble_eq_true rfl : 100 ≤ sizeLine), ?_⟩
      rintro s2 ⟨g2, rfl⟩
      refine compUr (fun i ys => LSm.BoolsAre ys ((r.places.take i).map fun p => bs9.getD p false)) .nil ?_ ?_
      · intro i2 ys hi2 hI v I2 oI2 C oC D m₂ h tk E' hv2 hC hx F2 N2 off2 ne2
        first | (refine' ex3 (ints_get hip hv2) ?_; intro _ _ _ _ ) | (refine' ex2 (ints_get hip hv2) ?_; intro _ _ h9e; walk_at "sp 2") | (refine' ex1 (ints_get hip hv2) ?_; intro _ h9e; walk_at "sp 3") | (refine' and4 (ints_get hip hv2) ?_; intro _ _ _ _ ) | (refine' and3 (ints_get hip hv2) ?_; intro _ _ h9e; walk_at "sp 2") | (refine' and2 (ints_get hip hv2) ?_; intro _ h9e; walk_at "sp 3") | (obtain ⟨_, _, _, _⟩ := ints_get hip hv2)
        rename_i p tp hp2 e9x1071
        subst e9x1071
        have hpm : p < many := (hok r (List.mem_of_getElem? hr)).places p (List.mem_of_getElem? hp2)
        (try (with_reducible show wpAny _ _ _ _ _ _))
        (try k_fold)
        k_steps
        refine' LCg.CompEnd.intro ?F ?N _ (fun _ h => h) off2 ?S ⟨rfl, ?I⟩
        (case F => k_asm)
        (case N => walk_at "k_news")
        (case S => k_mem)
        (case I => (rw [List.take_add_one, hp2, List.map_append]; exact kbo_app hI (.cons _ .nil)))
      · intro ys hI
        rw [hpn, List.take_length] at hI
        unfold LCg.FinE
        intro D3 h3 tk3 F3 N3 o3
        dsimp only
        have hD3 : @Ne Nat Df D3 := off1Mem o3 _ (.tail _ (.head _))
        have hI3 : @Ne Nat I D3 := off1Mem o3 _ (.head _)
        k_steps
        · have hlv : (r.places.any fun p => bs9.getD p false) = true := by rw [List.any_map] at *; assumption
          have he : (r.sort == .endS) = true := by assumption
          refine ⟨?_⟩
          refine forTup (l := pl) (vs := pvs) (k := kp) (nx₀ := (I, oI) :: (Df, listOf vs.toArray k) :: (W ++ base)) (by assumption) (fun j m nx => Keeps [Str.ofString "number"] _ m ∧ ∃ vs' k' W', nx = (I, oI) :: (Df, listOf vs'.toArray k') :: (W' ++ base) ∧ (∀ p ∈ W', @Ne Nat p.1 I) ∧
              WSt Df base W' vs' ((List.range many).flatMap (condWarn bs9) ++ (List.range i).flatMap (rowWarn rs bs9) ++ (((r.places.take j).filter fun p => !isFirst rs i p).map fun p => (10 * i + 10, Str.ofString "second end", titleN p))))
            (by rfl) (by rfl) (fun _ => rfl) (by passes_own) ?hi3 (by rfl) ⟨.refl, vs, k, W, rfl, fun p hp => (ho p (.tail _ hp)).1, by simpa using hW⟩ ?keep3 ?turn3 ?done3
          (case keep3 =>
            intro j m nx q9x1072
            first | (refine' ex4 (q9x1072) ?_; intro _ _ _ _ h9e; walk_at "sp 2") | (refine' ex3 (q9x1072) ?_; intro _ _ _ h9e; walk_at "sp 3") | (refine' ex2 (q9x1072) ?_; intro _ _ h9e; walk_at "sp 4") | (refine' ex1 (q9x1072) ?_; intro _ h9e; walk_at "sp 5") | (refine' and6 (q9x1072) ?_; intro _ _ _ _ _ _ ) | (refine' and4 (q9x1072) ?_; intro _ _ _ h9e; walk_at "sp 3") | (refine' and3 (q9x1072) ?_; intro _ _ h9e; walk_at "sp 4") | (refine' and2 (q9x1072) ?_; intro _ h9e; walk_at "sp 5") | (obtain ⟨_, _, _, _, _, _⟩ := q9x1072)
            rename_i d9x1073 vs' k' W' e9x1077 r9x1078
            try (clear q9x1072)
            clear d9x1073
            subst e9x1077
            obtain - := r9x1078
            exact .tail _ (.tail _ (List.mem_append.mpr (.inr hmp))))
          (case hi3 =>
            (try (with_reducible show wpAny _ _ _ _ _ _))
            (try k_fold)
            k_steps
            refine' ⟨_, _, rfl, rfl, ?F, ?N, ?m⟩
            (case F => k_asm)
            (case N => walk_at "k_news")
            (case m => k_mem))
          (case turn3 =>
            intro j v m₁ nx h tk I2 oI2 hv3 ho3 hJ9 F1 N1
            (with_reducible show wpAny _ _ _ _ _ _)
            k_fold
            first | (refine' ex4 (hJ9) ?_; intro _ _ _ _ h9e; walk_at "sp 2") | (refine' ex3 (hJ9) ?_; intro _ _ _ h9e; walk_at "sp 3") | (refine' ex2 (hJ9) ?_; intro _ _ h9e; walk_at "sp 4") | (refine' ex1 (hJ9) ?_; intro _ h9e; walk_at "sp 5") | (refine' and6 (hJ9) ?_; intro _ _ _ _ _ _ ) | (refine' and4 (hJ9) ?_; intro _ _ _ h9e; walk_at "sp 3") | (refine' and3 (hJ9) ?_; intro _ _ h9e; walk_at "sp 4") | (refine' and2 (hJ9) ?_; intro _ h9e; walk_at "sp 5") | (obtain ⟨_, _, _, _, _, _⟩ := hJ9)
            rename_i hK3 vs' k' W' e9x1083 r9x1084
            try (clear hJ9)
            subst e9x1083
            obtain ⟨hWI, hW'⟩ := r9x1084
            obtain ⟨u3, rfl⟩ := canon0 hK3
            first | (refine' ex3 (ints_get hip hv3) ?_; intro _ _ _ _ ) | (refine' ex2 (ints_get hip hv3) ?_; intro _ _ h9e; walk_at "sp 2") | (refine' ex1 (ints_get hip hv3) ?_; intro _ h9e; walk_at "sp 3") | (refine' and4 (ints_get hip hv3) ?_; intro _ _ _ _ ) | (refine' and3 (ints_get hip hv3) ?_; intro _ _ h9e; walk_at "sp 2") | (refine' and2 (ints_get hip hv3) ?_; intro _ h9e; walk_at "sp 3") | (obtain ⟨_, _, _, _⟩ := ints_get hip hv3)
            rename_i p tp hp3 e9x1088
            subst e9x1088
            have hpc : r.places.contains p = true := by simpa using List.mem_of_getElem? hp3
            have hpm : p < many := (hok r (List.mem_of_getElem? hr)).places p (List.mem_of_getElem? hp3)
            first | (refine' ex4 (hca p hpm) ?_; intro _ _ _ _ h9e; walk_at "sp 2") | (refine' ex3 (hca p hpm) ?_; intro _ _ _ h9e; walk_at "sp 3") | (refine' ex2 (hca p hpm) ?_; intro _ _ h9e; walk_at "sp 4") | (refine' ex1 (hca p hpm) ?_; intro _ h9e; walk_at "sp 5") | (refine' and6 (hca p hpm) ?_; intro _ _ _ _ _ _ ) | (refine' and4 (hca p hpm) ?_; intro _ _ _ h9e; walk_at "sp 3") | (refine' and3 (hca p hpm) ?_; intro _ _ h9e; walk_at "sp 4") | (refine' and2 (hca p hpm) ?_; intro _ h9e; walk_at "sp 5") | (obtain ⟨_, _, _, _, _, _⟩ := hca p hpm)
            rename_i xc kx tc bc hcv hcm2
            replace hcm2 := hbl _ hcm2
            have hvl' := hW'.rel.length
            have hfl := List.length_filter_le (fun p => !isFirst rs i p) (r.places.take j)
            have hfl2 : (r.places.take j).length ≤ r.places.length := by rw [List.length_take]; omega
            rw [List.length_append, List.length_append, List.length_map] at hvl'
            have hWo' := hW'.off
            have hII : @Ne Nat I I2 := ho3 _ (.head _)
            have hDI2 : @Ne Nat Df I2 := ho3 _ (.tail _ (.head _))
            k_steps
            first | (refine' ex3 (endAt_le hr he hpc) ?_; intro _ _ _ _ ) | (refine' ex2 (endAt_le hr he hpc) ?_; intro _ _ h9e; walk_at "sp 2") | (refine' ex1 (endAt_le hr he hpc) ?_; intro _ h9e; walk_at "sp 3") | (refine' and4 (endAt_le hr he hpc) ?_; intro _ _ _ _ ) | (refine' and3 (endAt_le hr he hpc) ?_; intro _ _ h9e; walk_at "sp 2") | (refine' and2 (endAt_le hr he hpc) ?_; intro _ h9e; walk_at "sp 3") | (obtain ⟨_, _, _, _⟩ := endAt_le hr he hpc)
            rename_i k2 hk2 hki hf2
            have o9 : rvs[k2]? = some v9 := by have o9 := o9; unfold EndOut at o9; rw [hk2] at o9; exact o9
            obtain ⟨rk2, hrk⟩ : ∃ x, rs[k2]? = some x := ⟨rs[k2]'(by have := (List.getElem?_eq_some_iff.mp hr).1; omega), by simp⟩
            obtain ⟨v2, hv2, hR2⟩ := hra k2 rk2 hrk
            obtain rfl : v2 = v9 := by rw [o9] at hv2; exact (Option.some.inj hv2).symm
            first | (refine' ex12 (hR2.mono hbl) ?_; intro _ _ _ _ _ _ _ _ _ _ _ _ h9e; walk_at "sp 9") | (refine' ex8 (hR2.mono hbl) ?_; intro _ _ _ _ _ _ _ _ h9e; walk_at "sp 13") | (refine' ex6 (hR2.mono hbl) ?_; intro _ _ _ _ _ _ h9e; walk_at "sp 15") | (refine' ex4 (hR2.mono hbl) ?_; intro _ _ _ _ h9e; walk_at "sp 17") | (refine' ex3 (hR2.mono hbl) ?_; intro _ _ _ h9e; walk_at "sp 18") | (refine' ex2 (hR2.mono hbl) ?_; intro _ _ h9e; walk_at "sp 19") | (refine' ex1 (hR2.mono hbl) ?_; intro _ h9e; walk_at "sp 20") | (refine' and6 (hR2.mono hbl) ?_; intro _ _ _ _ _ h9e; walk_at "sp 16") | (refine' and4 (hR2.mono hbl) ?_; intro _ _ _ h9e; walk_at "sp 18") | (refine' and3 (hR2.mono hbl) ?_; intro _ _ h9e; walk_at "sp 19") | (refine' and2 (hR2.mono hbl) ?_; intro _ h9e; walk_at "sp 20") | (obtain ⟨_, _, _, _, _, _, _, _, _, _, _, _, _, _, _, _, _, _, _, _, _⟩ := hR2.mono hbl)
            rename_i xr2 dr2 nr2 slr2 q21 q22 q23 q24 q25 pl2 q26 q27 pv2 q28 q29 st2 q210 q211 q212 e9x1118 r9x1119
            subst e9x1118
            first | (refine' ex4 (r9x1119) ?_; intro _ _ _ _ _ ) | (refine' ex3 (r9x1119) ?_; intro _ _ _ h9e; walk_at "sp 2") | (refine' ex2 (r9x1119) ?_; intro _ _ h9e; walk_at "sp 3") | (refine' ex1 (r9x1119) ?_; intro _ h9e; walk_at "sp 4") | (refine' and4 (r9x1119) ?_; intro _ _ _ h9e; walk_at "sp 2") | (refine' and3 (r9x1119) ?_; intro _ _ h9e; walk_at "sp 3") | (refine' and2 (r9x1119) ?_; intro _ h9e; walk_at "sp 4") | (obtain ⟨_, _, _, _, _⟩ := r9x1119)
            rename_i mr21 mr22 d9x1122 d9x1123 d9x1124
            try (clear r9x1119)
            clear d9x1122
            clear d9x1123
            clear d9x1124
            k_steps
            · rename_i hq T hT lT
              have hnf : (!isFirst rs i p) = true := by
                rw [← hf2]
                first | (simpa using (show ((k2 : Int) != (i : Int)) = true by assumption)) | (simpa using (show (k2 : Int) ≠ (i : Int) by assumption))
              refine' CutI.mk ⟨_, _, _, (I, oI) :: (Df, listOf (vs' ++ [Value.ref T]).toArray (k' + 1)) :: (((T, _) :: W') ++ base), rfl, ?F, ?N, ?o, ?K, vs' ++ [.ref T], k' + 1, _, rfl, ?I, ?W⟩
              (case F => k_asm)
              (case N => walk_at "k_news")
              (case W => (rw [filt_succ hp3, hnf, if_pos rfl, ← List.append_assoc]; exact hW'.pushE (10 * i + 10, Str.ofString "second end", titleN p) lT.2.2.2 lT.2.2.1 (by simp)))
              (case o => exact List.forall_mem_cons.mpr ⟨hII, List.forall_mem_cons.mpr ⟨hDI2, List.forall_mem_cons.mpr ⟨(Nat.ne_of_lt lT.1).symm, fun p hp => ho3 p (.tail _ (.tail _ hp))⟩⟩⟩)
              (case I => exact List.forall_mem_cons.mpr ⟨(Nat.ne_of_lt lT.2.1).symm, hWI⟩)
              (case K => walk_at "k_keeps")
            · have hnf : (!isFirst rs i p) = false := by
                rw [← hf2]
                first | (simpa using (show ((k2 : Int) != (i : Int)) = false by assumption)) | (simpa using (show (k2 : Int) = (i : Int) by assumption)) | (simpa using (show ¬ (k2 : Int) ≠ (i : Int) by assumption))
              refine' CutI.mk ⟨_, _, _, _, rfl, ?F, ?N, ho3, ?K, vs', k', W', rfl, hWI, ?W⟩
              (case F => k_asm)
              (case N => walk_at "k_news")
              (case W => (rw [filt_succ hp3, hnf]; simpa using hW'))
              (case K => walk_at "k_keeps"))
          (case done3 =>
            intro m₁ nx h tk q9x1125
            first | (refine' ex4 (q9x1125) ?_; intro _ _ _ _ h9e; walk_at "sp 2") | (refine' ex3 (q9x1125) ?_; intro _ _ _ h9e; walk_at "sp 3") | (refine' ex2 (q9x1125) ?_; intro _ _ h9e; walk_at "sp 4") | (refine' ex1 (q9x1125) ?_; intro _ h9e; walk_at "sp 5") | (refine' and6 (q9x1125) ?_; intro _ _ _ _ _ _ ) | (refine' and4 (q9x1125) ?_; intro _ _ _ h9e; walk_at "sp 3") | (refine' and3 (q9x1125) ?_; intro _ _ h9e; walk_at "sp 4") | (refine' and2 (q9x1125) ?_; intro _ h9e; walk_at "sp 5") | (obtain ⟨_, _, _, _, _, _⟩ := q9x1125)
            rename_i hK3 vs' k' W' e9x1130 r9x1131
            try (clear q9x1125)
            subst e9x1130
            obtain ⟨hWI, hW'⟩ := r9x1131
            intro F1 N1
            obtain ⟨u3, rfl⟩ := canon0 hK3
            rw [hpn, List.take_length] at hW'
            k_steps
            refine' CutI.mk ⟨_, _, _, (Df, listOf vs'.toArray k') :: W', rfl, ?F, ?N, ?o, ?K, vs', k', W', rfl, ?W⟩
            (case F => k_asm)
            (case N => walk_at "k_news")
            (case o => exact List.forall_mem_cons.mpr ⟨ho (Df, listOf vs.toArray k) (.head _), fun p hp => ⟨hWI p hp, fun e => hW'.ord p hp _ hrm e.symm⟩⟩)
            (case W => (rw [rowWarn_end hr hlv (beq_iff_eq.mp he), ← List.append_assoc]; exact hW'))
            (case K => exact Keeps.trans (Keeps.set (by rfl) .ovr) (hK3.widen (by rfl))))
        · have hlv : (r.places.any fun p => bs9.getD p false) = true := by rw [List.any_map] at *; assumption
          have he : (r.sort == .endS) = false := by assumption
          have hP : PatAt base pv (r.sort == .good) := by
            cases e : r.sort with
            | endS => rw [e] at he; cases he
            | good => rw [e] at hp; exact hp
            | bad => rw [e] at hp; exact hp
          obtain ⟨xp, rfl⟩ := hP.ref
          k_steps
          · have hs : r.sort = .good := by have : (r.sort == .good) = true := by assumption
                                           exact beq_iff_eq.mp this
            refine' CutI.mk ⟨_, _, _, (Df, listOf vs.toArray k) :: W, rfl, ?F, ?N, ho, ?K, vs, k, W, rfl, ?W⟩
            (case F => k_asm)
            (case N => walk_at "k_news")
            (case K => walk_at "k_keeps")
            (case W => (rw [rowWarn_good hr hlv hs]; exact hW))
          · have hs : r.sort = .bad := by
              have h1 : (r.sort == .good) = false := by assumption
              cases e : r.sort <;> rw [e] at h1 he <;> first | rfl | exact absurd he (by decide) | exact absurd h1 (by decide)
            rename_i T hT lT
            refine' CutI.mk ⟨_, _, _, (Df, listOf (vs ++ [Value.ref T]).toArray (k + 1)) :: ((T, _) :: W), rfl, ?F, ?N, ?o, ?K, vs ++ [.ref T], k + 1, _, rfl, ?W⟩
            (case F => k_asm)
            (case N => (dsimp only [List.cons_append]; walk_at "k_news"))
            (case W => (rw [rowWarn_bad hr hlv hs, ← List.append_assoc]; exact hW.pushE (10 * i + 10, Str.ofString "never matched", Str.ofString "") lT.2.2.2 lT.2.2.1 (by simp)))
            (case o => exact List.forall_mem_cons.mpr ⟨ho (Df, listOf vs.toArray k) (.head _), List.forall_mem_cons.mpr ⟨⟨(Nat.ne_of_lt lT.2.1).symm, (Nat.ne_of_lt (ktn_ltOf lT.2.2.2 _ (List.mem_append.mpr (.inr hrm)))).symm⟩, fun p hp => ho p (.tail _ hp)⟩⟩)
            (case K => walk_at "k_keeps")
        · have hlv : (r.places.any fun p => bs9.getD p false) = false := by rw [List.any_map] at *; assumption
          rename_i T hT lT
          refine' CutI.mk ⟨_, _, _, (Df, listOf (vs ++ [Value.ref T]).toArray (k + 1)) :: ((T, _) :: W), rfl, ?F, ?N, ?o, ?K, vs ++ [.ref T], k + 1, _, rfl, ?W⟩
          (case F => k_asm)
          (case N => (dsimp only [List.cons_append]; walk_at "k_news"))
          (case W => (rw [rowWarn_live hr hlv, ← List.append_assoc]; exact hW.pushE (10 * i + 10, Str.ofString "never live", Str.ofString "") lT.2.2.2 lT.2.2.1 (by simp)))
          (case o => exact List.forall_mem_cons.mpr ⟨ho (Df, listOf vs.toArray k) (.head _), List.forall_mem_cons.mpr ⟨⟨(Nat.ne_of_lt lT.2.1).symm, (Nat.ne_of_lt (ktn_ltOf lT.2.2.2 _ (List.mem_append.mpr (.inr hrm)))).symm⟩, fun p hp => ho p (.tail _ hp)⟩⟩)
          (case K => walk_at "k_keeps"))
    (case done2 =>
      intro m₁ nx h tk q9x1132
      first | (refine' ex4 (q9x1132) ?_; intro _ _ _ _ h9e; walk_at "sp 2") | (refine' ex3 (q9x1132) ?_; intro _ _ _ h9e; walk_at "sp 3") | (refine' ex2 (q9x1132) ?_; intro _ _ h9e; walk_at "sp 4") | (refine' ex1 (q9x1132) ?_; intro _ h9e; walk_at "sp 5") | (refine' and6 (q9x1132) ?_; intro _ _ _ _ _ _ ) | (refine' and4 (q9x1132) ?_; intro _ _ _ h9e; walk_at "sp 3") | (refine' and3 (q9x1132) ?_; intro _ _ h9e; walk_at "sp 4") | (refine' and2 (q9x1132) ?_; intro _ h9e; walk_at "sp 5") | (obtain ⟨_, _, _, _, _, _⟩ := q9x1132)
      rename_i hK vs k W e9x1137 r9x1138
      try (clear q9x1132)
      subst e9x1137
      have hW := r9x1138; clear r9x1138
      intro F1 N1 ho
      obtain ⟨u', rfl⟩ := canon0 hK
      rw [hrl] at hW
      k_steps
      refine' hret _ ((Df, listOf vs.toArray k) :: W) _ _ ⟨_, _, rfl, vs, W, rfl, bs9, r9, hW.rel⟩ ?o ?F ?N
      (case F => k_asm)
      (case N => (refine newsSub (by assumption) (List.forall_mem_cons.mpr ⟨.head _, fun p hp => ?_⟩); rcases List.mem_append.mp hp with hp | hp; exact .tail _ (List.mem_append.mpr (.inl hp)); exact .tail _ (List.mem_append.mpr (.inr (hbl _ hp)))))
      (case o => exact fun q hq => List.forall_mem_cons.mpr ⟨Nat.ne_of_lt (hbD _ (hbl _ hq)), fun p hp => hW.ord p hp q (hbl _ hq)⟩)))

/-- a row of the law's, with all that a file's rule takes of it -/
def RowX (led : Led) (v : Value) (r : Row) : Prop := ∃ a k t pl pv gl st, v = .ref a ∧ (a, tupO #[.str r.sort.str t, .ref pl, pv, .ref gl, st] k) ∈ led ∧ IntsT led pl r.places ∧ IntsL led gl r.goals ∧ PvAt led pv r.sort ∧ StepsAt led st r.goals
def RowsX (led : Led) (a : Addr) (rs : List Row) : Prop := ∃ vs k, (a, listOf vs.toArray k) ∈ led ∧ All2 (RowX led) vs rs ∧ vs.length < 100
theorem RowX.mono {led led' : Led} (hs : ∀ p ∈ led, p ∈ led') {v : Value} {r : Row} (h : RowX led v r) : RowX led' v r := by
  first | (refine' ex12 (h) ?_; intro _ _ _ _ _ _ _ _ _ _ _ _ _ ) | (refine' ex8 (h) ?_; intro _ _ _ _ _ _ _ _ h9e; walk_at "sp 5") | (refine' ex6 (h) ?_; intro _ _ _ _ _ _ h9e; walk_at "sp 7") | (refine' ex4 (h) ?_; intro _ _ _ _ h9e; walk_at "sp 9") | (refine' ex3 (h) ?_; intro _ _ _ h9e; walk_at "sp 10") | (refine' ex2 (h) ?_; intro _ _ h9e; walk_at "sp 11") | (refine' ex1 (h) ?_; intro _ h9e; walk_at "sp 12") | (refine' and6 (h) ?_; intro _ _ _ _ _ h9e; walk_at "sp 8") | (refine' and4 (h) ?_; intro _ _ _ h9e; walk_at "sp 10") | (refine' and3 (h) ?_; intro _ _ h9e; walk_at "sp 11") | (refine' and2 (h) ?_; intro _ h9e; walk_at "sp 12") | (obtain ⟨_, _, _, _, _, _, _, _, _, _, _, _, _⟩ := h)
  rename_i a k t pl pv gl st e m i1 i2 p1 s1
  try (clear h)
  exact ⟨a, k, t, pl, pv, gl, st, e, hs _ m, i1.mono hs, i2.mono hs, p1.mono hs, s1.mono hs⟩
theorem RowsX.mono {led led' : Led} (hs : ∀ p ∈ led, p ∈ led') {a : Addr} {rs : List Row} (h : RowsX led a rs) : RowsX led' a rs := by
  first | (refine' ex4 (h) ?_; intro _ _ _ _ _ ) | (refine' ex3 (h) ?_; intro _ _ _ h9e; walk_at "sp 2") | (refine' ex2 (h) ?_; intro _ _ h9e; walk_at "sp 3") | (refine' ex1 (h) ?_; intro _ h9e; walk_at "sp 4") | (refine' and4 (h) ?_; intro _ _ _ h9e; walk_at "sp 2") | (refine' and3 (h) ?_; intro _ _ h9e; walk_at "sp 3") | (refine' and2 (h) ?_; intro _ h9e; walk_at "sp 4") | (obtain ⟨_, _, _, _, _⟩ := h)
  rename_i vs k m q l
  try (clear h)
  exact ⟨vs, k, hs _ m, q.imp fun _ _ => RowX.mono hs, l⟩
theorem RowsX.at_ {led : Led} {a : Addr} {rs : List Row} (h : RowsX led a rs) : RowsAt led a rs := by
  first | (refine' ex4 (h) ?_; intro _ _ _ _ _ ) | (refine' ex3 (h) ?_; intro _ _ _ h9e; walk_at "sp 2") | (refine' ex2 (h) ?_; intro _ _ h9e; walk_at "sp 3") | (refine' ex1 (h) ?_; intro _ h9e; walk_at "sp 4") | (refine' and4 (h) ?_; intro _ _ _ h9e; walk_at "sp 2") | (refine' and3 (h) ?_; intro _ _ h9e; walk_at "sp 3") | (refine' and2 (h) ?_; intro _ h9e; walk_at "sp 4") | (obtain ⟨_, _, _, _, _⟩ := h)
  rename_i vs k m q l
  try (clear h)
  refine ⟨vs, k, m, q.imp ?_, l⟩
  intro v r hx
  first | (refine' ex12 (hx) ?_; intro _ _ _ _ _ _ _ _ _ _ _ _ _ ) | (refine' ex8 (hx) ?_; intro _ _ _ _ _ _ _ _ h9e; walk_at "sp 5") | (refine' ex6 (hx) ?_; intro _ _ _ _ _ _ h9e; walk_at "sp 7") | (refine' ex4 (hx) ?_; intro _ _ _ _ h9e; walk_at "sp 9") | (refine' ex3 (hx) ?_; intro _ _ _ h9e; walk_at "sp 10") | (refine' ex2 (hx) ?_; intro _ _ h9e; walk_at "sp 11") | (refine' ex1 (hx) ?_; intro _ h9e; walk_at "sp 12") | (refine' and6 (hx) ?_; intro _ _ _ _ _ h9e; walk_at "sp 8") | (refine' and4 (hx) ?_; intro _ _ _ h9e; walk_at "sp 10") | (refine' and3 (hx) ?_; intro _ _ h9e; walk_at "sp 11") | (refine' and2 (hx) ?_; intro _ h9e; walk_at "sp 12") | (obtain ⟨_, _, _, _, _, _, _, _, _, _, _, _, _⟩ := hx)
  rename_i a k t pl pv gl st e m i1 i2 z1 z2
  try (clear hx)
  exact ⟨a, k, t, pl, pv, gl, st, e, m, i1, i2⟩
theorem PvAt.val {led : Led} {v : Value} {s : Srt} (h : PvAt led v s) : v = .none ∨ ∃ x, v = .ref x := by
  cases s with
  | endS => exact .inl h
  | good => exact .inr (PatAt.ref h)
  | bad => exact .inr (PatAt.ref h)
theorem compEndPair {h₀ h' : Heap} {L I C D x d : Addr} {m : Str → Option Value} {s₁ : Shared} {oI oC oD ox od : Obj} {S : List (Addr × Obj) → Prop} {rest : Value → List (Addr × Obj) → Prop} {y : Value} {tk : Nat} {nw : Led}
    (F : Fr h₀ L h' m) (N : News h₀ L h' ((x, ox) :: (d, od) :: (I, oI) :: (C, oC) :: (D, oD) :: nw)) (off : LCg.Off3 I C D nw) (l1 : @LT.lt Nat _ I d ∧ @LT.lt Nat _ C d ∧ @LT.lt Nat _ D d ∧ AllLt d nw) (l2 : @LT.lt Nat _ d x)
    (hS : S ((x, ox) :: (d, od) :: nw)) (r : rest y ((x, ox) :: (d, od) :: nw)) : LCg.CompEnd h₀ L m s₁ I oI C oC D oD S rest y { s₁ with heap := h', toks := tk } := by
  refine LCg.CompEnd.intro F N ((x, ox) :: (d, od) :: nw) ?_ ⟨⟨Ne.symm (Nat.ne_of_lt (Nat.lt_trans l1.1 l2)), Ne.symm (Nat.ne_of_lt (Nat.lt_trans l1.2.1 l2)), Ne.symm (Nat.ne_of_lt (Nat.lt_trans l1.2.2.1 l2))⟩, ⟨Ne.symm (Nat.ne_of_lt l1.1), Ne.symm (Nat.ne_of_lt l1.2.1), Ne.symm (Nat.ne_of_lt l1.2.2.1)⟩, off⟩ hS r
  intro p hp
  simp only [List.mem_cons] at hp ⊢
  rcases hp with h | h | h | h | h | h <;> simp only [h, true_or, or_true]
theorem rules_step {rs : List Row} {W W' : Led} {ys : List Value} {i : Nat} {r : Row} {v : Value} (hys : ∀ j r, j < i → rs[j]? = some r → ∃ v, ys[j]? = some v ∧ RuleAt W v j r) (hyl : ys.length = i) (hr : rs[i]? = some r)
    (hR : RuleAt W' v i r) (hs : ∀ p ∈ W, p ∈ W') : ∀ j r, j < i + 1 → rs[j]? = some r → ∃ v2, (ys ++ [v])[j]? = some v2 ∧ RuleAt W' v2 j r := by
  intro j r2 hj hr2
  by_cases e : j = i
  · subst e
    rw [hr] at hr2
    obtain rfl := Option.some.inj hr2
    exact ⟨v, by rw [← hyl, List.getElem?_concat_length], hR⟩
  · obtain ⟨v2, h1, h2⟩ := hys j r2 (by omega) hr2
    exact ⟨v2, by rw [List.getElem?_append_left (by omega)]; exact h1, h2.mono hs⟩
theorem ordPair {W base : Led} {x d : Addr} {ox od : Obj} (h : ∀ p ∈ W, ∀ q ∈ base, @Ne Nat q.1 p.1) (l1 : AllLt d (W ++ base)) (l2 : @LT.lt Nat _ d x) : ∀ p ∈ (x, ox) :: (d, od) :: W, ∀ q ∈ base, @Ne Nat q.1 p.1 := by
  intro p hp q hq
  have hd := ktn_ltOf l1 q (List.mem_append.mpr (.inr hq))
  rcases List.mem_cons.mp hp with rfl | hp
  · exact Nat.ne_of_lt (Nat.lt_trans hd l2)
  · rcases List.mem_cons.mp hp with rfl | hp
    · exact Nat.ne_of_lt hd
    · exact h p hp q hq
theorem newsFile {h₀ h : Heap} {L x d e D : Addr} {ox od oe oD : Obj} {W base led : Led} (N : News h₀ L h ((x, ox) :: (d, od) :: (e, oe) :: (D, oD) :: (W ++ base))) (hbl : ∀ p ∈ led, p ∈ base) : News h₀ L h (((x, ox) :: (d, od) :: (D, oD) :: W) ++ led) :=
  newsSub N (List.forall_mem_cons.mpr ⟨.head _, List.forall_mem_cons.mpr ⟨.tail _ (.head _), List.forall_mem_cons.mpr ⟨.tail _ (.tail _ (.tail _ (.head _))), fun p hp => .tail _ (.tail _ (.tail _ (.tail _ ((List.mem_append.mp hp).elim (fun h => List.mem_append.mpr (.inl h)) fun h => List.mem_append.mpr (.inr (hbl p h))))))⟩⟩⟩)
theorem words_lfile_1 : True := by
  k_with "exec Assign cons ListComp" => (k_here; (rename HoldMark => hM9); k_dflt (refine LCg.Assign_ListComp_U (F₀ := by k_asm) (by rfl) (by with_unfolding_all rfl) (by with_unfolding_all rfl) (by decide) (by rfl) (by decide) (by rfl) (by rfl) (by rfl) ?_); walk_say "MINE")
  k_with "CompSrc" => ((rename HoldMark => hM9); refine held ?_)
  k_with "CompSrcT" => ((rename HoldMark => hM9); refine held ?_)
  trivial
theorem lawFileC (w : World) (rules cl : Addr) (cvs : List Value) (ck many : Nat) (rs : List Row) (sub : Led) (hR : RowsX sub rules rs) (hC : CondsAt sub cl cvs ck many) :
    Con w 756 [.ref rules, .ref cl] 100 1000 sub (fun x _ led => ∃ f rl rvs rk, x = .ref f ∧ FileAt led f cl cvs ck rl rvs rk many rs) := by
  intro mean mg mb dp un gd cn cs a0 ccd cl0 outer A₀ base h₀ L m s Q E led B F X N hsub T hk hdp hu hret
  revert X; k_fill; intro X
  have fC9 : FoldC := ⟨⟩
  have hM9 : HoldMark := ⟨⟩
  replace hR := hR.mono hsub
  replace hC := hC.mono hsub
  first | (refine' ex4 (id hR) ?_; intro _ _ _ _ _ ) | (refine' ex3 (id hR) ?_; intro _ _ _ h9e; walk_at "sp 2") | (refine' ex2 (id hR) ?_; intro _ _ h9e; walk_at "sp 3") | (refine' ex1 (id hR) ?_; intro _ h9e; walk_at "sp 4") | (refine' and4 (id hR) ?_; intro _ _ _ h9e; walk_at "sp 2") | (refine' and3 (id hR) ?_; intro _ _ h9e; walk_at "sp 3") | (refine' and2 (id hR) ?_; intro _ h9e; walk_at "sp 4") | (obtain ⟨_, _, _, _, _⟩ := id hR)
  rename_i rvs rk hm h2 hvl
  have hsz : rvs.toArray.size = rs.length := by rw [List.size_toArray, h2.length]
  have hrl : rs.length < 100 := by rw [← h2.length]; exact hvl
  refine wpAny_call ?_
  k_dflt walk_at "k_enter"
  rename_i o1 d1
  replace d1 : o1.data = .cell (some (.ref rules)) := d1.trans (by rfl)
  obtain ⟨base, hbase⟩ : ∃ b : Led, b = (L' + 1, o1) :: led := ⟨_, rfl⟩
  have mC : (L' + 1, o1) ∈ base := by rw [hbase]; exact .head _
  have hbl : ∀ p ∈ led, p ∈ base := fun p hp => by rw [hbase]; exact .tail _ hp
  have mR := hbl _ hm
  rw [← hbase] at N'
  k_steps
  refine ⟨?_⟩
  refine LCg.CompSrc.range (n := rs.length) (by rfl) (by k_asm) (by k_asm) (by assumption) (small_one (by omega) (by omega) (by omega) (by omega)) (by rw [rangeSize_one]; split <;> omega) (by rw [sizeLine_eq]; omega) ?_
  intro g2
  refine compU (fun i ys nw => ∃ W, nw = W ++ base ∧ (∀ p ∈ W, ∀ q ∈ base, @Ne Nat q.1 p.1) ∧ ys.length = i ∧ ∀ j r, j < i → rs[j]? = some r → ∃ v, ys[j]? = some v ∧ RuleAt (W ++ led) v j r) ⟨[], rfl, (fun _ h => nomatch h), rfl, fun j r h => absurd h (Nat.not_lt_zero _)⟩ ?_ ?_
  · intro i ys nw hi hJ9 v I oI C oC D m₂ h tk E' hP hC2 hx F2 N2 off2 ne2
    (with_reducible show wpAny _ _ _ _ _ _)
    k_fold
    obtain ⟨tv, rfl⟩ := hP
    first | (refine' ex2 (hJ9) ?_; intro _ _ _ ) | (refine' ex1 (hJ9) ?_; intro _ h9e; walk_at "sp 2") | (refine' and3 (hJ9) ?_; intro _ _ _ ) | (refine' and2 (hJ9) ?_; intro _ h9e; walk_at "sp 2") | (obtain ⟨_, _, _⟩ := hJ9)
    rename_i W e9x1181 r9x1182
    try (clear hJ9)
    subst e9x1181
    obtain ⟨hWo, hyl, hys⟩ := r9x1182
    rw [Int.zero_add] at hx
    obtain ⟨r, hr⟩ : ∃ r, rs[i]? = some r := ⟨rs[i]'hi, by simp⟩
    obtain ⟨v, hv⟩ : ∃ v, rvs[i]? = some v := ⟨rvs[i]'(by rw [h2.length]; exact hi), by simp⟩
    first | (refine' ex8 (h2.get hv) ?_; intro _ _ _ _ _ _ _ _ h9e; walk_at "sp 3") | (refine' ex6 (h2.get hv) ?_; intro _ _ _ _ _ _ h9e; walk_at "sp 5") | (refine' ex4 (h2.get hv) ?_; intro _ _ _ _ h9e; walk_at "sp 7") | (refine' ex3 (h2.get hv) ?_; intro _ _ _ h9e; walk_at "sp 8") | (refine' ex2 (h2.get hv) ?_; intro _ _ h9e; walk_at "sp 9") | (refine' ex1 (h2.get hv) ?_; intro _ h9e; walk_at "sp 10") | (refine' and6 (h2.get hv) ?_; intro _ _ _ _ _ h9e; walk_at "sp 6") | (refine' and4 (h2.get hv) ?_; intro _ _ _ h9e; walk_at "sp 8") | (refine' and3 (h2.get hv) ?_; intro _ _ h9e; walk_at "sp 9") | (refine' and2 (h2.get hv) ?_; intro _ h9e; walk_at "sp 10") | (obtain ⟨_, _, _, _, _, _, _, _, _, _, _⟩ := h2.get hv)
    rename_i r2 hr2 ar kr t pl pv gl st e9x1192 r9x1193
    subst e9x1192
    first | (refine' ex4 (r9x1193) ?_; intro _ _ _ _ _ ) | (refine' ex3 (r9x1193) ?_; intro _ _ _ h9e; walk_at "sp 2") | (refine' ex2 (r9x1193) ?_; intro _ _ h9e; walk_at "sp 3") | (refine' ex1 (r9x1193) ?_; intro _ h9e; walk_at "sp 4") | (refine' and4 (r9x1193) ?_; intro _ _ _ h9e; walk_at "sp 2") | (refine' and3 (r9x1193) ?_; intro _ _ h9e; walk_at "sp 3") | (refine' and2 (r9x1193) ?_; intro _ h9e; walk_at "sp 4") | (obtain ⟨_, _, _, _, _⟩ := r9x1193)
    rename_i mr i1 i2 p1 s1
    try (clear r9x1193)
    obtain rfl : r2 = r := by rw [hr] at hr2; exact (Option.some.inj hr2).symm
    replace mr := hbl _ mr
    first | (refine' ex4 (id s1) ?_; intro _ _ _ _ h9e; walk_at "sp 2") | (refine' ex3 (id s1) ?_; intro _ _ _ h9e; walk_at "sp 3") | (refine' ex2 (id s1) ?_; intro _ _ h9e; walk_at "sp 4") | (refine' ex1 (id s1) ?_; intro _ h9e; walk_at "sp 5") | (refine' and6 (id s1) ?_; intro _ _ _ _ _ _ ) | (refine' and4 (id s1) ?_; intro _ _ _ h9e; walk_at "sp 3") | (refine' and3 (id s1) ?_; intro _ _ h9e; walk_at "sp 4") | (refine' and2 (id s1) ?_; intro _ h9e; walk_at "sp 5") | (obtain ⟨_, _, _, _, _, _⟩ := id s1)
    rename_i ga gvs gk os e9x1203 r9x1204
    subst e9x1203
    have s1' := r9x1204; clear r9x1204
    k_steps
    rename_i x d h5 F5 N5 l1x l2x h4 h3 h2' h1' h0 F0 N0 kF kN kT kX
    have hsb : ∀ (o2 o3 : Obj), ∀ p ∈ led, p ∈ (x, o2) :: (d, o3) :: (W ++ led) := fun _ _ p hp => .tail _ (.tail _ (List.mem_append.mpr (.inr hp)))
    refine compEndPair kF kN off2 l1x l2x trivial ⟨_ :: _ :: W, rfl, ordPair hWo l1x.2.2.2 l2x, by rw [List.length_append, hyl]; rfl, rules_step hys hyl hr ⟨x, d, _, _, _, _, _, _, _, _, _, _, _, _, _, _, _, _, _, rfl, .head _, .tail _ (.head _), i1.mono (hsb _ _), p1.mono (hsb _ _), s1.mono (hsb _ _)⟩ (fun p hp => .tail _ (.tail _ hp))⟩
  · skip
    intro ys nw q9x1205
    first | (refine' ex2 (q9x1205) ?_; intro _ _ _ ) | (refine' ex1 (q9x1205) ?_; intro _ h9e; walk_at "sp 2") | (refine' and3 (q9x1205) ?_; intro _ _ _ ) | (refine' and2 (q9x1205) ?_; intro _ h9e; walk_at "sp 2") | (obtain ⟨_, _, _⟩ := q9x1205)
    rename_i W e9x1207 r9x1208
    try (clear q9x1205)
    subst e9x1207
    obtain ⟨hWo, hyl, hys⟩ := r9x1208
    unfold LCg.FinA
    intro D3 h3 tk3 F3 N3 o3
    dsimp only
    k_steps
    rename_i x d h5 F5 N5 l1x l2x h4 h3 h2' h1' h0 F0 N0 kF1 kN1 kT1 kX1 kF kN kT kX
    have hD3 : ∀ q ∈ led, @Ne Nat q.1 D3 := fun q hq => off1Mem o3 q (List.mem_append.mpr (.inr (hbl q hq)))
    have hod := ordPair (ox := instObj 707 d) (od := instObj 707 d) hWo l1x.2.2 l2x
    refine' hret _ _ _ _ ⟨x, D3, ys, ys.length, rfl, ?A⟩ ?o ?F ?N
    (case F => exact kF)
    (case N => exact newsFile kN hbl)
    (case o => exact fun q hq => List.forall_mem_cons.mpr ⟨hod _ (.head _) q (hbl q hq), List.forall_mem_cons.mpr ⟨hod (d, _) (.tail _ (.head _)) q (hbl q hq), List.forall_mem_cons.mpr ⟨hD3 q hq, fun p hp => hWo p hp q (hbl q hq)⟩⟩⟩)
    (case A =>
      have hs3 : ∀ (o2 o3 : Obj), ∀ p ∈ W ++ led, p ∈ ((x, o2) :: (d, o3) :: (D3, LCg.lst ys) :: W) ++ led := fun _ _ p hp => .tail _ (.tail _ (.tail _ hp))
      refine ⟨⟨d, _, _, _, _, _, _, _, _, _, _, _, _, _, _, .head _, .tail _ (.head _)⟩, hC.mono fun p hp => hs3 _ _ p (List.mem_append.mpr (.inr hp)), ⟨.tail _ (.tail _ (.head _)), hyl, hrl, fun i r hr => ?_⟩⟩
      obtain ⟨v, h1, h2⟩ := hys i r (List.getElem?_eq_some_iff.mp hr).1 hr
      exact ⟨v, h1, h2.mono (hs3 _ _)⟩)

/-! plain law: what can be reached -/
/-- the bit g of a row of bits -/
abbrev bit (c : List Bool) (g : Nat) : Bool := c.getD g false
def doneR (S : Nat → Bool) (r : Row) : List Nat := match r.sort with
  | .endS => r.places.filter (fun p => !S p)
  | .good => r.places
  | .bad => []
def addS (S : Nat → Bool) (r : Row) : Nat → Bool := fun p => S p || (r.sort == .endS && r.places.contains p)
def rel (S : Nat → Bool) : List Row → Nat → Nat → Prop
  | [], _, _ => False
  | r :: rs, p, g => (p ∈ doneR S r ∧ g ∈ r.goals) ∨ rel (addS S r) rs p g
def noS : Nat → Bool := fun _ => false
inductive Conn (R : Nat → Nat → Prop) : Nat → Prop
  | zero : Conn R 0
  | step {p g} : Conn R p → R p g → Conn R g
theorem addS_dead {S : Nat → Bool} {r : Row} (h : doneR S r = []) : addS S r = S := by
  funext p
  unfold addS
  unfold doneR at h
  cases hs : r.sort with
  | good => simp
  | bad => simp
  | endS =>
    rw [hs] at h
    simp only at h
    by_cases hp : p ∈ r.places
    · have := List.filter_eq_nil_iff.mp h p hp
      simp at this
      simp [this]
    · simp [hp]
theorem rel_dead {a b : List Row} {x : Row} : ∀ {S : Nat → Bool}, doneR (a.foldl addS S) x = [] → rel S (a ++ x :: b) = rel S (a ++ b) := by
  induction a with
  | nil =>
    intro S h
    funext p g
    simp only [List.foldl_nil] at h
    simp only [List.nil_append, rel, h, addS_dead h]
    simp
  | cons r a ih =>
    intro S h
    funext p g
    simp only [List.cons_append, rel]
    rw [ih h]
def keptR (S : Nat → Bool) : List Row → List Row
  | [] => []
  | r :: rs => if (doneR S r).isEmpty = true then keptR (addS S r) rs else r :: keptR (addS S r) rs
theorem rel_kept : ∀ (rs : List Row) (S : Nat → Bool), rel S (keptR S rs) = rel S rs
  | [], _ => rfl
  | r :: rs, S => by
    funext p g
    unfold keptR
    by_cases h : doneR S r = []
    · rw [if_pos (by rw [h]; rfl), addS_dead h, rel_kept rs S]
      simp [rel, h, addS_dead h]
    · rw [if_neg (by simpa using h)]
      simp only [rel]
      rw [rel_kept rs]
theorem keptR_snoc (r : Row) : ∀ (a : List Row) (S : Nat → Bool), keptR S (a ++ [r]) = keptR S a ++ (if (doneR (a.foldl addS S) r).isEmpty = true then [] else [r])
  | [], S => by simp [keptR]
  | x :: a, S => by
    simp only [List.cons_append, keptR, List.foldl_cons]
    rw [keptR_snoc r a]
    split <;> rfl
theorem foldS (p : Nat) : ∀ (a : List Row) (S : Nat → Bool), (a.foldl addS S) p = (S p || a.any fun r => r.sort == .endS && r.places.contains p)
  | [], S => by simp
  | r :: a, S => by
    rw [List.foldl_cons, foldS p a]
    simp [addS, Bool.or_assoc]
theorem isFirst_S (rs : List Row) (n p : Nat) : isFirst rs n p = !((rs.take n).foldl addS noS) p := by
  rw [foldS, isFirst, noS, Bool.false_or, List.not_any_eq_all_not]
theorem doneOf_S {rs : List Row} {n : Nat} {r : Row} (h : rs[n]? = some r) : doneOf rs n = doneR ((rs.take n).foldl addS noS) r := by
  unfold doneOf doneR
  rw [h]
  simp only
  cases r.sort <;> simp only
  congr 1
  funext p
  exact isFirst_S rs n p
theorem rel_iff {p g : Nat} : ∀ (rs : List Row) (S : Nat → Bool), rel S rs p g ↔ ∃ n r, rs[n]? = some r ∧ p ∈ doneR ((rs.take n).foldl addS S) r ∧ g ∈ r.goals
  | [], S => by simp [rel]
  | r :: rs, S => by
    simp only [rel]
    rw [rel_iff rs]
    constructor
    · rintro (⟨h1, h2⟩ | ⟨n, r', h1, h2, h3⟩)
      · exact ⟨0, r, by simp, by simpa using h1, h2⟩
      · exact ⟨n + 1, r', by simpa using h1, by simpa using h2, h3⟩
    · skip
      intro q9x1209
      first | (refine' ex4 (q9x1209) ?_; intro _ _ _ _ _ ) | (refine' ex3 (q9x1209) ?_; intro _ _ _ h9e; walk_at "sp 2") | (refine' ex2 (q9x1209) ?_; intro _ _ h9e; walk_at "sp 3") | (refine' ex1 (q9x1209) ?_; intro _ h9e; walk_at "sp 4") | (refine' and4 (q9x1209) ?_; intro _ _ _ h9e; walk_at "sp 2") | (refine' and3 (q9x1209) ?_; intro _ _ h9e; walk_at "sp 3") | (refine' and2 (q9x1209) ?_; intro _ h9e; walk_at "sp 4") | (obtain ⟨_, _, _, _, _⟩ := q9x1209)
      rename_i n r' h1 h2 h3
      try (clear q9x1209)
      cases n with
      | zero => simp at h1; subst h1; exact .inl ⟨by simpa using h2, h3⟩
      | succ n => exact .inr ⟨n, r', by simpa using h1, by simpa using h2, h3⟩
theorem rel_done {rs : List Row} {p g : Nat} : rel noS rs p g ↔ ∃ n r, rs[n]? = some r ∧ p ∈ doneOf rs n ∧ g ∈ r.goals := by
  rw [rel_iff]
  constructor
  · skip
    intro q9x1215
    first | (refine' ex4 (q9x1215) ?_; intro _ _ _ _ _ ) | (refine' ex3 (q9x1215) ?_; intro _ _ _ h9e; walk_at "sp 2") | (refine' ex2 (q9x1215) ?_; intro _ _ h9e; walk_at "sp 3") | (refine' ex1 (q9x1215) ?_; intro _ h9e; walk_at "sp 4") | (refine' and4 (q9x1215) ?_; intro _ _ _ h9e; walk_at "sp 2") | (refine' and3 (q9x1215) ?_; intro _ _ h9e; walk_at "sp 3") | (refine' and2 (q9x1215) ?_; intro _ h9e; walk_at "sp 4") | (obtain ⟨_, _, _, _, _⟩ := q9x1215)
    rename_i n r h h1 h2
    try (clear q9x1215)
    exact ⟨n, r, h, by rw [doneOf_S h]; exact h1, h2⟩
  · skip
    intro q9x1221
    first | (refine' ex4 (q9x1221) ?_; intro _ _ _ _ _ ) | (refine' ex3 (q9x1221) ?_; intro _ _ _ h9e; walk_at "sp 2") | (refine' ex2 (q9x1221) ?_; intro _ _ h9e; walk_at "sp 3") | (refine' ex1 (q9x1221) ?_; intro _ h9e; walk_at "sp 4") | (refine' and4 (q9x1221) ?_; intro _ _ _ h9e; walk_at "sp 2") | (refine' and3 (q9x1221) ?_; intro _ _ h9e; walk_at "sp 3") | (refine' and2 (q9x1221) ?_; intro _ h9e; walk_at "sp 4") | (obtain ⟨_, _, _, _, _⟩ := q9x1221)
    rename_i n r h h1 h2
    try (clear q9x1221)
    exact ⟨n, r, h, by rw [← doneOf_S h]; exact h1, h2⟩
theorem rel_do {rs : List Row} {p g : Nat} : rel noS rs p g ↔ ∃ n r, rs[n]? = some r ∧ (r.places.contains p && canDo rs n r p) = true ∧ g ∈ r.goals := by
  rw [rel_done]
  have key : ∀ n r, rs[n]? = some r → (p ∈ doneOf rs n ↔ (r.places.contains p && canDo rs n r p) = true) := by
    intro n r h
    unfold doneOf canDo
    rw [h]
    simp only
    cases r.sort <;> simp
  constructor
  · skip
    intro q9x1227
    first | (refine' ex4 (q9x1227) ?_; intro _ _ _ _ _ ) | (refine' ex3 (q9x1227) ?_; intro _ _ _ h9e; walk_at "sp 2") | (refine' ex2 (q9x1227) ?_; intro _ _ h9e; walk_at "sp 3") | (refine' ex1 (q9x1227) ?_; intro _ h9e; walk_at "sp 4") | (refine' and4 (q9x1227) ?_; intro _ _ _ h9e; walk_at "sp 2") | (refine' and3 (q9x1227) ?_; intro _ _ h9e; walk_at "sp 3") | (refine' and2 (q9x1227) ?_; intro _ h9e; walk_at "sp 4") | (obtain ⟨_, _, _, _, _⟩ := q9x1227)
    rename_i n r h h1 h2
    try (clear q9x1227)
    exact ⟨n, r, h, (key n r h).mp h1, h2⟩
  · skip
    intro q9x1233
    first | (refine' ex4 (q9x1233) ?_; intro _ _ _ _ _ ) | (refine' ex3 (q9x1233) ?_; intro _ _ _ h9e; walk_at "sp 2") | (refine' ex2 (q9x1233) ?_; intro _ _ h9e; walk_at "sp 3") | (refine' ex1 (q9x1233) ?_; intro _ h9e; walk_at "sp 4") | (refine' and4 (q9x1233) ?_; intro _ _ _ h9e; walk_at "sp 2") | (refine' and3 (q9x1233) ?_; intro _ _ h9e; walk_at "sp 3") | (refine' and2 (q9x1233) ?_; intro _ h9e; walk_at "sp 4") | (obtain ⟨_, _, _, _, _⟩ := q9x1233)
    rename_i n r h h1 h2
    try (clear q9x1233)
    exact ⟨n, r, h, (key n r h).mpr h1, h2⟩
theorem bit_set {c : List Bool} {g x : Nat} : bit (c.set g true) x = true ↔ bit c x = true ∨ (x = g ∧ g < c.length) := by
  unfold bit
  rw [List.getD_eq_getElem?_getD, List.getD_eq_getElem?_getD, List.getElem?_set]
  by_cases e : g = x
  · subst e
    by_cases h : g < c.length
    · simp [h]
    · simp [h]
  · have e' : ¬ x = g := fun q => e q.symm
    simp [e, e']
theorem bit_setAll {x : Nat} : ∀ (gs : List Nat) (c : List Bool), (∀ g ∈ gs, g < c.length) → (bit (gs.foldl (fun c g => c.set g true) c) x = true ↔ bit c x = true ∨ x ∈ gs)
  | [], c, _ => by simp
  | g :: gs, c, h => by
    rw [List.foldl_cons, bit_setAll gs _ (by intro y hy; rw [List.length_set]; exact h y (.tail _ hy)), bit_set]
    have := h g (.head _)
    simp only [List.mem_cons]
    constructor
    · rintro ((q | ⟨q, _⟩) | q)
      · exact .inl q
      · exact .inr (.inl q)
      · exact .inr (.inr q)
    · rintro (q | q | q)
      · exact .inl (.inl q)
      · exact .inl (.inr ⟨q, this⟩)
      · exact .inr q
def BLe (c d : List Bool) : Prop := ∀ x, bit c x = true → bit d x = true
theorem bits_ext {c d : List Bool} (hl : c.length = d.length) (h : ∀ x, bit c x = true ↔ bit d x = true) : c = d := by
  apply List.ext_getElem hl
  intro i h1 h2
  have := h i
  simp only [bit, List.getD_eq_getElem?_getD, List.getElem?_eq_getElem h1, List.getElem?_eq_getElem h2, Option.getD_some] at this
  exact Bool.eq_iff_iff.mpr this
theorem bit0 {many x : Nat} : bit (true :: List.replicate (many - 1) false) x = true ↔ x = 0 := by
  cases x with
  | zero => simp [bit]
  | succ x =>
    simp only [bit, List.getD_eq_getElem?_getD, List.getElem?_cons_succ, List.getElem?_replicate]
    split <;> simp
section
variable {rs : List Row} {many : Nat}
theorem stepE_bit (hok : ∀ r ∈ rs, RowOk many r) {c : List Bool} (hc : c.length = many) {n x : Nat} : bit (stepE rs c n) x = true ↔ bit c x = true ∨ ∃ r p, rs[n]? = some r ∧ p ∈ doneOf rs n ∧ bit c p = true ∧ x ∈ r.goals := by
  unfold stepE
  cases h : rs[n]? with
  | none => simp
  | some r =>
    simp only
    split
    · rename_i q
      obtain ⟨p, hp, hq⟩ := List.any_eq_true.mp q
      rw [bit_setAll _ _ fun g hg => by rw [hc]; exact (hok r (List.mem_of_getElem? h)).goals g hg]
      constructor
      · rintro (q | q)
        · exact .inl q
        · exact .inr ⟨r, p, rfl, hp, hq, q⟩
      · rintro (q | ⟨r', p', e, _, _, q⟩)
        · exact .inl q
        · obtain rfl := Option.some.inj e
          exact .inr q
    · rename_i q
      constructor
      · exact .inl
      · rintro (q' | ⟨r', p', e, hp, hq, _⟩)
        · exact q'
        · exact absurd (List.any_eq_true.mpr ⟨p', hp, hq⟩) q
theorem fold_le (hok : ∀ r ∈ rs, RowOk many r) : ∀ (ns : List Nat) {c : List Bool}, c.length = many → BLe c (ns.foldl (stepE rs) c)
  | [], _, _ => fun _ h => h
  | n :: ns, c, hc => fun x h => fold_le hok ns (by rw [stepE_len]; exact hc) x ((stepE_bit hok hc).mpr (.inl h))
theorem fold_fix (hok : ∀ r ∈ rs, RowOk many r) : ∀ (ns : List Nat) {c : List Bool}, c.length = many → ns.foldl (stepE rs) c = c → ∀ n ∈ ns, stepE rs c n = c
  | [], _, _, _, _, h => nomatch h
  | m :: ns, c, hc, e, n, hn => by
    have h1 : BLe (stepE rs c m) c := fun x h => by
      have := fold_le hok ns (c := stepE rs c m) (by rw [stepE_len]; exact hc) x h
      rw [List.foldl_cons] at e
      rwa [e] at this
    have h2 : stepE rs c m = c := bits_ext (stepE_len _ _ _) fun x => ⟨h1 x, fun h => (stepE_bit hok hc).mpr (.inl h)⟩
    rcases List.mem_cons.mp hn with rfl | hn
    · exact h2
    · rw [List.foldl_cons, h2] at e
      exact fold_fix hok ns hc e n hn
theorem count_le {c d : List Bool} (hl : c.length = d.length) (h : BLe c d) : c.count true ≤ d.count true ∧ (c ≠ d → c.count true < d.count true) := by
  induction c generalizing d with
  | nil =>
    cases d with
    | nil => simp
    | cons _ _ => cases hl
  | cons a c ih =>
    cases d with
    | nil => cases hl
    | cons b d =>
      have i := ih (d := d) (Nat.succ.inj hl) fun x hx => by have := h (x + 1) (by simpa [bit] using hx); simpa [bit] using this
      have h0 := h 0
      simp only [bit, List.getD_cons_zero] at h0
      simp only [List.count_cons]
      cases a <;> cases b <;> simp_all <;> omega
theorem sweepE_len (rs : List Row) (c : List Bool) : (sweepE rs c).length = c.length := foldStep_len _ _ _
/-- many sweeps are enough -/
theorem sweeps (hok : ∀ r ∈ rs, RowOk many r) (k : Nat) : let c := (List.range k).foldl (fun c _ => sweepE rs c) (true :: List.replicate (many - 1) false); 1 ≤ many → sweepE rs c = c ∨ k + 1 ≤ c.count true := by
  induction k with
  | zero => intro c hm; right; simp [c]
  | succ k ih =>
    intro c hm
    have hc : c = sweepE rs ((List.range k).foldl (fun c _ => sweepE rs c) (true :: List.replicate (many - 1) false)) := foldl_range_succ _ _ _
    have hl : ((List.range k).foldl (fun c _ => sweepE rs c) (true :: List.replicate (many - 1) false)).length = many := by
      rw [foldSweep_len]; simp; omega
    by_cases e : sweepE rs ((List.range k).foldl (fun c _ => sweepE rs c) (true :: List.replicate (many - 1) false)) = (List.range k).foldl (fun c _ => sweepE rs c) (true :: List.replicate (many - 1) false)
    · left; rw [hc, e, e]
    · right
      rcases ih hm with q | q
      · exact absurd q e
      · have := (count_le (sweepE_len _ _).symm (fold_le hok (List.range rs.length) hl)).2 fun q => e q.symm
        rw [hc]
        have q2 : (List.foldl (fun c _ => sweepE rs c) (true :: List.replicate (many - 1) false) (List.range k)).count true < (sweepE rs ((List.range k).foldl (fun c _ => sweepE rs c) (true :: List.replicate (many - 1) false))).count true := this
        omega
theorem lawEnt_len (hm : 1 ≤ many) : (lawEnt rs many).length = many := by
  unfold lawEnt; rw [foldSweep_len]; simp; omega
theorem lawEnt_fix (hok : ∀ r ∈ rs, RowOk many r) (hm : 1 ≤ many) : sweepE rs (lawEnt rs many) = lawEnt rs many := by
  rcases sweeps hok many hm with q | q
  · exact q
  · have h1 := List.count_le_length (a := true) (l := lawEnt rs many)
    rw [lawEnt_len hm] at h1
    unfold lawEnt at h1
    omega
theorem step_sound {c : List Bool} (hok : ∀ r ∈ rs, RowOk many r) (hc : c.length = many) (h : ∀ x, bit c x = true → Conn (rel noS rs) x) (n : Nat) : ∀ x, bit (stepE rs c n) x = true → Conn (rel noS rs) x := by
  intro x hx
  rcases (stepE_bit hok hc).mp hx with q | ⟨r, p, h1, h2, h3, h4⟩
  · exact h x q
  · exact .step (h p h3) (rel_done.mpr ⟨n, r, h1, h2, h4⟩)
theorem fold_sound (hok : ∀ r ∈ rs, RowOk many r) : ∀ (ns : List Nat) {c : List Bool}, c.length = many → (∀ x, bit c x = true → Conn (rel noS rs) x) → ∀ x, bit (ns.foldl (stepE rs) c) x = true → Conn (rel noS rs) x
  | [], _, _, h => h
  | n :: ns, _, hc, h => fold_sound hok ns (by rw [stepE_len]; exact hc) (step_sound hok hc h n)
theorem sweeps_sound (hok : ∀ r ∈ rs, RowOk many r) : ∀ (ns : List Nat) {c : List Bool}, c.length = many → (∀ x, bit c x = true → Conn (rel noS rs) x) → ∀ x, bit (ns.foldl (fun c _ => sweepE rs c) c) x = true → Conn (rel noS rs) x
  | [], _, _, h => h
  | n :: ns, _, hc, h => sweeps_sound hok ns (by rw [sweepE_len]; exact hc) (fold_sound hok _ hc h)
theorem lawEnt_iff (hok : ∀ r ∈ rs, RowOk many r) (hm : 1 ≤ many) (x : Nat) : bit (lawEnt rs many) x = true ↔ Conn (rel noS rs) x := by
  have h0 : ∀ x, bit (true :: List.replicate (many - 1) false) x = true → Conn (rel noS rs) x := fun x h => by rw [bit0.mp h]; exact .zero
  have hl : (true :: List.replicate (many - 1) false).length = many := by simp; omega
  constructor
  · exact sweeps_sound hok _ hl h0 x
  · intro h
    induction h with
    | zero =>
      have key : ∀ (ns : List Nat) {c : List Bool}, c.length = many → BLe c (ns.foldl (fun c _ => sweepE rs c) c) := by
        intro ns
        induction ns with
        | nil => intro c _ x h; exact h
        | cons n ns ih => intro c hc x h; exact ih (by rw [sweepE_len]; exact hc) x (fold_le hok _ hc x h)
      exact key _ hl 0 (bit0.mpr rfl)
    | step hp hr ih =>
      first | (refine' ex4 (rel_done.mp hr) ?_; intro _ _ _ _ _ ) | (refine' ex3 (rel_done.mp hr) ?_; intro _ _ _ h9e; walk_at "sp 2") | (refine' ex2 (rel_done.mp hr) ?_; intro _ _ h9e; walk_at "sp 3") | (refine' ex1 (rel_done.mp hr) ?_; intro _ h9e; walk_at "sp 4") | (refine' and4 (rel_done.mp hr) ?_; intro _ _ _ h9e; walk_at "sp 2") | (refine' and3 (rel_done.mp hr) ?_; intro _ _ h9e; walk_at "sp 3") | (refine' and2 (rel_done.mp hr) ?_; intro _ h9e; walk_at "sp 4") | (obtain ⟨_, _, _, _, _⟩ := rel_done.mp hr)
      rename_i n r h1 h2 h3
      have e := fold_fix hok (List.range rs.length) (lawEnt_len hm) (lawEnt_fix hok hm) n (List.mem_range.mpr (List.getElem?_eq_some_iff.mp h1).1)
      rw [← e]
      exact (stepE_bit hok (lawEnt_len hm)).mpr (.inr ⟨r, _, h1, h2, ih, h3⟩)
/-! the worklist -/
structure Grow (P : Nat → Prop) (st st' : St) : Prop where
  len : st'.1.length = st.1.length
  bits : BLe st.1 st'.1
  keep : ∀ w ∈ st.2, w ∈ st'.2
  new : ∀ x, bit st'.1 x = true → bit st.1 x = true ∨ (x ∈ st'.2 ∧ P x)
  newW : ∀ x ∈ st'.2, x ∈ st.2 ∨ (bit st'.1 x = true ∧ P x)
theorem Grow.refl {P : Nat → Prop} {st : St} : Grow P st st := ⟨rfl, fun _ h => h, fun _ h => h, fun _ h => .inl h, fun _ h => .inl h⟩
theorem Grow.trans {P : Nat → Prop} {a b c : St} (h : Grow P a b) (k : Grow P b c) : Grow P a c :=
  ⟨k.len.trans h.len, fun x q => k.bits x (h.bits x q), fun w q => k.keep w (h.keep w q),
   fun x q => (k.new x q).elim (fun q => (h.new x q).elim .inl fun q => .inr ⟨k.keep x q.1, q.2⟩) .inr,
   fun x q => (k.newW x q).elim (fun q => (h.newW x q).elim .inl fun q => .inr ⟨k.bits x q.1, q.2⟩) .inr⟩
theorem goalStep_grow {P : Nat → Prop} {st : St} {g : Nat} (hg : g < st.1.length) (hP : P g) : Grow P st (goalStep st g) ∧ bit (goalStep st g).1 g = true := by
  unfold goalStep
  split
  · rename_i q; exact ⟨.refl, q⟩
  · refine ⟨⟨List.length_set .., fun x h => bit_set.mpr (.inl h), fun w h => List.mem_append.mpr (.inl h), fun x h => ?_, fun x h => ?_⟩, bit_set.mpr (.inr ⟨rfl, hg⟩)⟩
    · rcases bit_set.mp h with q | ⟨rfl, _⟩
      · exact .inl q
      · exact .inr ⟨by simp, hP⟩
    · rcases List.mem_append.mp h with q | q
      · exact .inl q
      · rw [List.mem_singleton.mp q]; exact .inr ⟨bit_set.mpr (.inr ⟨rfl, hg⟩), hP⟩
theorem goals_grow {P : Nat → Prop} : ∀ (gs : List Nat) {st : St}, (∀ g ∈ gs, g < st.1.length ∧ P g) → Grow P st (gs.foldl goalStep st) ∧ ∀ g ∈ gs, bit (gs.foldl goalStep st).1 g = true
  | [], _, _ => ⟨.refl, fun _ h => nomatch h⟩
  | g :: gs, st, h => by
    obtain ⟨a, b⟩ := goalStep_grow (st := st) (h g (.head _)).1 (h g (.head _)).2
    obtain ⟨c, d⟩ := goals_grow (P := P) gs (st := goalStep st g) fun x hx => ⟨by rw [a.len]; exact (h x (.tail _ hx)).1, (h x (.tail _ hx)).2⟩
    refine ⟨a.trans c, fun x hx => ?_⟩
    rcases List.mem_cons.mp hx with rfl | hx
    · exact c.bits _ b
    · exact d x hx
theorem rules_grow (hok : ∀ r ∈ rs, RowOk many r) {c : Nat} {P : Nat → Prop} (hP : ∀ g, rel noS rs c g → P g) : ∀ (ns : List Nat) {st : St}, st.1.length = many →
    Grow P st (ns.foldl (ruleStep rs c) st) ∧ ∀ n ∈ ns, ∀ r, rs[n]? = some r → (r.places.contains c && canDo rs n r c) = true → ∀ g ∈ r.goals, bit (ns.foldl (ruleStep rs c) st).1 g = true
  | [], _, _ => ⟨.refl, fun _ h => nomatch h⟩
  | n :: ns, st, hl => by
    have a : Grow P st (ruleStep rs c st n) ∧ ∀ r, rs[n]? = some r → (r.places.contains c && canDo rs n r c) = true → ∀ g ∈ r.goals, bit (ruleStep rs c st n).1 g = true := by
      unfold ruleStep
      cases h : rs[n]? with
      | none => exact ⟨.refl, fun _ e => nomatch e⟩
      | some r =>
        simp only
        split
        · rename_i q
          have := goals_grow (P := P) r.goals (st := st) fun g hg => ⟨by rw [hl]; exact (hok r (List.mem_of_getElem? h)).goals g hg, hP g (rel_do.mpr ⟨n, r, h, q, hg⟩)⟩
          exact ⟨this.1, fun r' e _ => by obtain rfl := Option.some.inj e; exact this.2⟩
        · rename_i q
          exact ⟨.refl, fun r' e q' => by obtain rfl := Option.some.inj e; exact absurd q' q⟩
    obtain ⟨b, d⟩ := rules_grow hok hP ns (st := ruleStep rs c st n) (a.1.len.trans hl)
    refine ⟨a.1.trans b, fun m hm r hr hq g hg => ?_⟩
    rcases List.mem_cons.mp hm with rfl | hm
    · exact b.bits g (a.2 r hr hq g hg)
    · exact d m hm r hr hq g hg
structure RInv (rs : List Row) (many : Nat) (st : St) : Prop where
  len : st.1.length = many
  zero : bit st.1 0 = true
  sound : ∀ x, bit st.1 x = true → Conn (rel noS rs) x
  soundW : ∀ x ∈ st.2, Conn (rel noS rs) x
  closed : ∀ p, bit st.1 p = true → p ∈ st.2 ∨ ∀ g, rel noS rs p g → bit st.1 g = true
theorem reach_inv (hok : ∀ r ∈ rs, RowOk many r) (hm : 1 ≤ many) {st : St} (h : Reach rs many st) : RInv rs many st := by
  induction h with
  | init =>
    refine ⟨by simp; omega, bit0.mpr rfl, fun x h => by rw [bit0.mp h]; exact .zero, fun x h => by rw [List.mem_singleton.mp h]; exact .zero, fun p h => .inl (by rw [bit0.mp h]; exact .head _)⟩
  | @pop bs ws c _ ih =>
    obtain ⟨G, D⟩ := rules_grow hok (c := c) (P := fun g => rel noS rs c g) (fun _ h => h) (List.range rs.length) (st := (bs, ws)) ih.len
    have hc : Conn (rel noS rs) c := ih.soundW c (by simp)
    refine ⟨G.len.trans ih.len, G.bits 0 ih.zero, fun x hx => ?_, fun x hx => ?_, fun p hp => ?_⟩
    · rcases G.new x hx with q | q
      · exact ih.sound x q
      · exact .step hc q.2
    · rcases G.newW x hx with q | q
      · exact ih.soundW x (List.mem_append.mpr (.inl q))
      · exact .step hc q.2
    · rcases G.new p hp with q | q
      · rcases ih.closed p q with q2 | q2
        · rcases List.mem_append.mp q2 with q2 | q2
          · exact .inl (G.keep p q2)
          · right
            intro g hg
            rw [List.mem_singleton.mp q2] at hg
            first | (refine' ex4 (rel_do.mp hg) ?_; intro _ _ _ _ _ ) | (refine' ex3 (rel_do.mp hg) ?_; intro _ _ _ h9e; walk_at "sp 2") | (refine' ex2 (rel_do.mp hg) ?_; intro _ _ h9e; walk_at "sp 3") | (refine' ex1 (rel_do.mp hg) ?_; intro _ h9e; walk_at "sp 4") | (refine' and4 (rel_do.mp hg) ?_; intro _ _ _ h9e; walk_at "sp 2") | (refine' and3 (rel_do.mp hg) ?_; intro _ _ h9e; walk_at "sp 3") | (refine' and2 (rel_do.mp hg) ?_; intro _ h9e; walk_at "sp 4") | (obtain ⟨_, _, _, _, _⟩ := rel_do.mp hg)
            rename_i n r h1 h2 h3
            exact D n (List.mem_range.mpr (List.getElem?_eq_some_iff.mp h1).1) r h1 h2 g h3
        · exact .inr fun g hg => G.bits g (q2 g hg)
      · exact .inl q.1
theorem reach_ent (hok : ∀ r ∈ rs, RowOk many r) (hm : 1 ≤ many) {bs : List Bool} (h : Reach rs many (bs, [])) : bs = lawEnt rs many := by
  have I := reach_inv hok hm h
  refine bits_ext (I.len.trans (lawEnt_len hm).symm) fun x => ?_
  rw [lawEnt_iff hok hm]
  refine ⟨I.sound x, fun hx => ?_⟩
  induction hx with
  | zero => exact I.zero
  | step hp hr ih => exact (I.closed _ ih).elim (fun q => nomatch q) fun q => q _ hr
end
theorem lawEnt_rel {rs rs' : List Row} {many : Nat} (hok : ∀ r ∈ rs, RowOk many r) (hok' : ∀ r ∈ rs', RowOk many r) (hm : 1 ≤ many) (h : rel noS rs' = rel noS rs) : lawEnt rs' many = lawEnt rs many :=
  bits_ext ((lawEnt_len hm).trans (lawEnt_len hm).symm) fun x => by rw [lawEnt_iff hok hm, lawEnt_iff hok' hm, h]
/-- the rows that can be done somewhere -/
def keptN (rs : List Row) (i : Nat) : List Row := keptR noS (rs.take i)
theorem keptN_succ {rs : List Row} {i : Nat} {r : Row} (h : rs[i]? = some r) : keptN rs (i + 1) = keptN rs i ++ (if (doneOf rs i).isEmpty = true then [] else [r]) := by
  unfold keptN
  rw [List.take_add_one, h, doneOf_S h]
  exact keptR_snoc r _ _
theorem keptN_ent {rs : List Row} {many : Nat} (hok : ∀ r ∈ rs, RowOk many r) (hok' : ∀ r ∈ keptN rs rs.length, RowOk many r) (hm : 1 ≤ many) : lawEnt (keptN rs rs.length) many = lawEnt rs many := by
  refine lawEnt_rel hok hok' hm ?_
  unfold keptN
  rw [List.take_length]
  exact rel_kept rs noS
theorem more_ent {rs : List Row} {many n : Nat} {x : Row} (hok : ∀ r ∈ rs, RowOk many r) (hok' : ∀ r ∈ rs.take n ++ x :: rs.drop n, RowOk many r) (hm : 1 ≤ many) (hx : doneR ((rs.take n).foldl addS noS) x = []) : lawEnt (rs.take n ++ x :: rs.drop n) many = lawEnt rs many := by
  refine lawEnt_rel hok hok' hm ?_
  rw [rel_dead hx, List.take_append_drop]
theorem dead_bad {S : Nat → Bool} {ps gs : List Nat} : doneR S ⟨.bad, ps, gs⟩ = [] := rfl
theorem dead_end {rs : List Row} {ps gs : List Nat} (h : ∀ p ∈ ps, isFirst rs rs.length p = false) : doneR ((rs.take rs.length).foldl addS noS) ⟨.endS, ps, gs⟩ = [] := by
  unfold doneR
  refine List.filter_eq_nil_iff.mpr fun p hp => ?_
  have := h p hp
  rw [isFirst_S] at this
  simp only [this]
  simp

section
variable {prog : Program} {w : World} {A₀ A : Around} {s : Shared} {base h₀ : Heap} {outer : List Env} {L : Addr} {m : Str → Option Value} {env : Env} {vis led : Led} {K : Frag} {p : Program} {loose : List Str} {mean : ExcName → Option Value} {mg mb : Str → Option Value}
  {R : Result → Shared → Prop} {name qual : Str} {params : Arguments} {body : List Stmt} {scope : Scope} {dV kV doc pm cdv ct oc : Value} {an od : Option Addr} {osl : Array (Option Value)} {f : Addr} {args : Args} {binds : List (Str × Value)}
/-- a call of a def that sees the objects `vis` alone: what else stands (led) is part of the callee's ground -/
theorem code_defL (B : Below A₀ base outer h₀) (F : Fr h₀ L s.heap m) (X₀ : K.In h₀) (N : News h₀ L s.heap vis) (NL : News h₀ L s.heap led) (hd : ∀ q ∈ led, ∀ p ∈ vis, @Ne Nat q.1 p.1) (T : Top p loose mean mg mb h₀) (hA : A.frames = some (env :: outer)) (hf : env.frame = some L) (hke : env.scope.kind = .function)
    (ho : K.lookup f = some ⟨oc, od, .func (fnOf name qual params body scope dV kV doc pm an cdv ct), osl⟩) (hcd : codeIn K cdv qual = true) (hroom : A.depth < recursionLimit)
    (hbind : BindsTo s (fnOf name qual params body scope dV kV doc pm an cdv ct) args binds) (hloc : ∀ y ∈ binds, scope.names.lookup y.1 = some .local)
    (h : ∀ g L' h₁, Fr h₀ L g m → Fr g L' h₁ (fun y => binds.reverse.lookup y) → News g L' h₁ vis → Below A base (env :: outer) g → K.In g → Top p loose mean mg mb g → (∀ p ∈ led, g.get? p.1 = some p.2) → (∀ p ∈ vis, p.1 < L') →
      wpAny (model prog w) (A.deeper (envOf qual scope L' f cdv)) (execs body (envOf qual scope L' f cdv))
        (fun fl s' => LeaveK h₀ L m g R (match fl with | .ret v => v | _ => .none) s')
        (fun e s' => wpAny (model prog w) (A.deeper (envOf qual scope L' f cdv)) (leaving (envOf qual scope L' f cdv) e) (fun _ s'' => R (.error e) s'') (fun e' s'' => R (.error e') s'') s')
        { s with heap := h₁, toks := s.toks + binds.length })
    (hco : scope.isCoroutine = false) (hgen : scope.isGenerator = false) (hk : scope.kind = .function)
    (hcell : ∀ x ∈ scope.names, x.2 ≠ .cell) : codeAny (model prog w) A (.call (.ref f) args) R s := by
  first | (refine' ex3 (groundX (R := R) B F N hA hf hke) ?_; intro _ _ _ _ ) | (refine' ex2 (groundX (R := R) B F N hA hf hke) ?_; intro _ _ h9e; walk_at "sp 2") | (refine' ex1 (groundX (R := R) B F N hA hf hke) ?_; intro _ h9e; walk_at "sp 3") | (refine' and4 (groundX (R := R) B F N hA hf hke) ?_; intro _ _ _ _ ) | (refine' and3 (groundX (R := R) B F N hA hf hke) ?_; intro _ _ h9e; walk_at "sp 2") | (refine' and2 (groundX (R := R) B F N hA hf hke) ?_; intro _ h9e; walk_at "sp 3") | (obtain ⟨_, _, _, _⟩ := groundX (R := R) B F N hA hf hke)
  rename_i FG BG st lv
  refine codeAny_call_def (fd := fnX name qual params body scope [] dV kV doc pm an cdv ct) (body := body) (binds := binds) hroom ((X₀.keeps F.keep) _ _ ho) rfl (T.nolimit.keeps F.keep) (codeRec_of (X₀.keeps F.keep) hcd) rfl hbind hcell hloc (fun h₁ hns hk₁ => ?_) hco hgen hk
  refine wpAny_mono (h _ s.heap.objs.size h₁ FG ⟨hns, fun b o e => hk₁ b o (of_hideAll _ e), Nat.le_of_eq (hideAll_size _ _)⟩
    (fun p hp => ⟨hk₁ _ _ (N p hp).1, Nat.ne_of_lt (Heap.lt_size (N p hp).1), hideAll_none _ (List.mem_map_of_mem hp)⟩) BG (X₀.keeps st) (T.keeps st) (fun q hq => hideAll_get _ (NL q hq).1 fun hm => ?_) (fun p hp => Heap.lt_size (N p hp).1)) (fun fl s' hl => lv _ _ hl) fun _ _ y => y
  obtain ⟨p, hp, e⟩ := List.mem_map.mp hm
  exact hd q hq p hp e.symm
theorem endL {g h h' : Heap} {L' : Addr} {m' : Str → Option Value} {nw nw' : Led} (F' : Fr g L' h' m') (N' : News g L' h' nw) (hg : ∀ p ∈ led, g.get? p.1 = some p.2) (NL : News h₀ L h led) (kN : News h₀ L h' nw) (hs : ∀ p ∈ nw', p ∈ nw) :
    News h₀ L h' (nw' ++ led) ∧ ∀ q ∈ led, ∀ p ∈ nw', @Ne Nat q.1 p.1 := by
  refine ⟨fun p hp => ?_, fun q hq p hp e => ?_⟩
  · rcases List.mem_append.mp hp with hp | hp
    · exact kN p (hs p hp)
    · exact ⟨F'.keep _ _ (hg p hp), (NL p hp).2⟩
  · have h1 := (N' p (hs p hp)).2.2
    have h2 := hg q hq
    have e' : q.1 = p.1 := e
    rw [e', h1] at h2
    cases h2
end
section
variable {prog : Program} {w : World} {A : Around} {E : Value → Shared → Prop} {s : Shared} {h₀ : Heap} {L a : Addr} {m : Str → Option Value} {news : Led} {v : Value}
/-- list.sort of one item -/
theorem sort1 {n : Nat} {P : PySem.Fin → Shared → Prop} (F : Fr h₀ L s.heap m) (N : News h₀ L s.heap news) (ho : s.heap.get? a = some (seqObj "list" #[v] n)) (haL : a ≠ L) (ha0 : h₀.get? a = none) (hna : ∀ p ∈ news, p.1 ≠ a)
    (h : ∀ c h', Fr h₀ L h' m → News h₀ L h' ((a, seqObj "list" #[v] c) :: news) → P (.done (.ret .none)) { s with heap := h' }) :
    wpAny (model prog w) A (Builtin.«list.sort» ⟨[.ref a], []⟩) P E s := by
  have s1 := Heap.SameBut.update s.heap a (Obj.mapSeq fun _ => (#[] : Array Value))
  obtain ⟨e1, ho1⟩ : ∃ e1, (s.heap.update a (Obj.mapSeq fun _ => (#[] : Array Value))).get? a = some (seqObj "list" #[] e1) := ⟨_, get?_update_seq ho fun _ => #[]⟩
  have F3 : Fr h₀ L (((s.heap.update a (Obj.mapSeq fun _ => (#[] : Array Value))).push (seqObj "tuple" [v].toArray 0)).push (seqObj "list" #[] 0)) m := ((kas_fr F s1 haL ha0).push _).push _
  have N2 : News h₀ L (((s.heap.update a (Obj.mapSeq fun _ => (#[] : Array Value))).push (seqObj "tuple" [v].toArray 0)).push (seqObj "list" #[] 0)) news :=
    (kas_news N s1 hna).grown fun b x e => Heap.get?_push_of_some _ (Heap.get?_push_of_some _ e)
  have hoa : (((s.heap.update a (Obj.mapSeq fun _ => (#[] : Array Value))).push (seqObj "tuple" [v].toArray 0)).push (seqObj "list" #[] 0)).get? a = some (seqObj "list" #[] e1) := Heap.get?_push_of_some _ (Heap.get?_push_of_some _ ho1)
  rw [list_sort_plain]
  refine wpAny_bind (listItems_at ho rfl ?_)
  refine wpAny_bind (listUpdate_at ho rfl ?_ (by show 1 ≤ sizeLine; rw [sizeLine_eq]; decide) (Nat.zero_le _))
  refine wpAny_bind (seqEpoch_at ho1 rfl ?_)
  refine wpAny_bind (wpAny_newTuple ?_ (by show 1 ≤ _; rw [sizeLine_eq]; decide))
  refine wpAny_bind (wpAny_newList ?_ (Nat.zero_le _))
  refine wpAny_holding ?_
  show wpAny (model prog w) A _ P E { s with heap := ((s.heap.update a (Obj.mapSeq fun _ => (#[] : Array Value))).push (seqObj "tuple" [v].toArray 0)).push (seqObj "list" #[] 0) }
  dsimp only
  have hn2 : (#[v] : Array Value).size < 2 := by show 1 < 2; decide
  have harr : Array.map (fun x => x.2) (arrOf (SortSt.mk' general' ((#[v] : Array Value).zip #[v]) #[] 7 none)) = #[v] := by first | rfl | with_unfolding_all rfl | kernel_rfl
  rw [if_pos hn2, if_pos hn2]
  refine wpAny_bind (wpAny_pure ?_)
  refine wpAny_bind (wpAny_pure ?_)
  have s2 := Heap.SameBut.update (((s.heap.update a (Obj.mapSeq fun _ => (#[] : Array Value))).push (seqObj "tuple" [v].toArray 0)).push (seqObj "list" #[] 0)) a (Obj.mapSeq fun _ => (#[v] : Array Value))
  obtain ⟨c2, hc2⟩ : ∃ c2, ((((s.heap.update a (Obj.mapSeq fun _ => (#[] : Array Value))).push (seqObj "tuple" [v].toArray 0)).push (seqObj "list" #[] 0)).update a (Obj.mapSeq fun _ => (#[v] : Array Value))).get? a = some (seqObj "list" #[v] c2) := ⟨_, get?_update_seq hoa fun _ => #[v]⟩
  refine wpAny_bind (seqEpoch_at hoa rfl ?_)
  dsimp only
  rw [harr]
  refine wpAny_bind (listUpdate_at hoa rfl ?_ (Nat.zero_le _) (by show 1 ≤ sizeLine + 1; rw [sizeLine_eq]; decide))
  simp only [bne_self_eq_false, Bool.false_eq_true, if_false]
  refine wpAny_pure (h c2 _ (kas_fr F3 s2 haL ha0) ?_)
  intro p hp
  rcases List.mem_cons.mp hp with rfl | hp
  · exact ⟨hc2, haL, ha0⟩
  · exact kas_news N2 s2 hna p hp
theorem sorted1 {l : Addr} {Q : Value → Shared → Prop} (F : Fr h₀ L s.heap m) (N : News h₀ L s.heap news) (hl : s.heap.IsList l #[v])
    (h : ∀ D c h', Fr h₀ L h' m → News h₀ L h' ((D, listOf #[v] c) :: news) → (∀ q ∈ news, q.1 < D) → Q (.ref D) { s with heap := h' }) :
    wpAny (model prog w) A (call (.builtin "sorted") [.ref l]) Q E s := by
  refine Calls.call_function_entry kind_sorted plain_sorted entry_sorted (args_sorted1 _) ?_
  unfold Builtin.«sorted»
  refine wpAny_bind (m := checkCount "sorted" 1 1 _) (wpAny_pure ?_)
  refine wpAny_bind (collect_list (vs := [v]) hl ?_ (by show 1 ≤ sizeLine; rw [sizeLine_eq]; decide))
  refine wpAny_bind (wpAny_newList ?_ (by show 1 ≤ sizeLine; rw [sizeLine_eq]; decide))
  have hsz : ((s.heap.push (seqObj "list" #[] 0)).update s.heap.objs.size (Obj.mapSeq (· ++ [v].toArray))).objs.size = s.heap.objs.size + 1 := by
    rw [Heap.size_update, size_push']
  have hoL : (((s.heap.push (seqObj "list" #[] 0)).update s.heap.objs.size (Obj.mapSeq (· ++ [v].toArray))).push (seqObj "list" [v].toArray 0)).get? (s.heap.objs.size + 1) = some (seqObj "list" [v].toArray 0) := by
    rw [← hsz]; exact Heap.get?_push_size _ rfl
  have keep : ∀ b o, s.heap.get? b = some o → (((s.heap.push (seqObj "list" #[] 0)).update s.heap.objs.size (Obj.mapSeq (· ++ [v].toArray))).push (seqObj "list" [v].toArray 0)).get? b = some o := fun b o q => by
    have hlt : b < s.heap.objs.size := Heap.lt_size q
    rw [Heap.get?_push_ne _ _ _ (by rw [hsz]; exact Nat.ne_of_lt (Nat.lt_succ_of_lt hlt)), Heap.get?_update_ne _ _ _ _ (Nat.ne_of_lt hlt), Heap.get?_push_ne _ _ _ (Nat.ne_of_lt hlt)]
    exact q
  have hL : L < s.heap.objs.size := F.ns.lt
  show wpAny _ _ _ _ _ { s with heap := ((s.heap.push (seqObj "list" #[] 0)).update s.heap.objs.size (Obj.mapSeq (· ++ [v].toArray))).push (seqObj "list" [v].toArray 0) }
  rw [hsz]
  refine wpAny_bind (wpAny_holding (wpAny_call_entry slot_list_sort ⟨_, hoL, rfl⟩ entry_list_sort ?body (args_list_sort _)))
  case body =>
    refine sort1 (s := { s with heap := ((s.heap.push (seqObj "list" #[] 0)).update s.heap.objs.size (Obj.mapSeq (· ++ [v].toArray))).push (seqObj "list" [v].toArray 0) })
      (F.kept keep) (N.grown keep) hoL (Nat.ne_of_gt (Nat.lt_succ_of_lt hL)) (Heap.get?_none_of_le (Nat.le_trans F.above (Nat.le_succ_of_le (Nat.le_of_lt hL))))
      (fun p hp => Nat.ne_of_lt (Nat.lt_succ_of_lt (Heap.lt_size (N p hp).1))) fun c h' F' N' => ?_
    exact ⟨_, rfl, wpAny_pure ⟨_, rfl, h _ c h' F' N' fun q hq => Nat.lt_succ_of_lt (Heap.lt_size (N q hq).1)⟩⟩
end
theorem words_span_1 : True := by
  k_with "call builtin:sorted" => (k_here; (with_reducible show wpAny _ _ (call (Value.builtin _) [Value.ref _]) _ _ _); k_dflt (refine' sorted1 ?F ?N ?l ?_; (case F => k_asm); (case N => k_asm); (case l => (refine' isListN ?n ?m; (case n => k_asm); (case m => k_mem)))); intro D' c' h' F' N' l1; (try k_lt l1))
  k_with "exec For Tuple Call cons nil" => (k_here; (rename Fr _ _ _ _ => lF'); (with_unfolding_all refine' For_turns lF' ?_; k_whole))
  trivial
theorem maxN0 {prog : Program} {w : World} {A : Around} {E : Value → Shared → Prop} {s : Shared} {h₀ : Heap} {L : Addr} {m : Str → Option Value} {news : Led} {a : Nat} {t u : Tok} {Q : Value → Shared → Prop} (hh : A.handled = none) (F : Fr h₀ L s.heap m) (N : News h₀ L s.heap news)
    (h : ∀ (v : Tok) h' tk, Fr h₀ L h' m → News h₀ L h' news → Q (.int (a : Int) v) { s with heap := h', toks := tk }) : wpAny (model prog w) A (call (.builtin "max") [.int (a : Int) t, .int 0 u]) Q E s :=
  max_two_N hh F N fun h' tk F' N' => by
    rw [if_neg (by omega : ¬ (0 : Int) > (a : Int))]
    exact h _ h' tk F' N'
theorem minNT {prog : Program} {w : World} {A : Around} {E : Value → Shared → Prop} {s : Shared} {h₀ : Heap} {L : Addr} {m : Str → Option Value} {news : Led} {b : Nat} {c : Int} {t u : Tok} {Q : Value → Shared → Prop} (hh : A.handled = none) (F : Fr h₀ L s.heap m) (N : News h₀ L s.heap news) (hb : (b : Int) ≤ c)
    (h : ∀ (v : Tok) h' tk, Fr h₀ L h' m → News h₀ L h' news → Q (.int (b : Int) v) { s with heap := h', toks := tk }) : wpAny (model prog w) A (call (.builtin "min") [.int (b : Int) t, .int c u]) Q E s :=
  min_two_N hh F N fun h' tk F' N' => by
    rw [if_neg (by omega : ¬ c < (b : Int))]
    exact h _ h' tk F' N'
theorem leTrue {prog : Program} {w : World} {A : Around} {E : Value → Shared → Prop} {s : Shared} {a b : Int} {t u : Tok} {Q : Value → Shared → Prop} (hb : a ≤ b) (h : Q (.bool true) s) : wpAny (model prog w) A (compareOp .LtE (.int a t) (.int b u)) Q E s :=
  PyProof.Rows.le_int (by rw [decide_eq_true hb]; exact h)
theorem words_span_2 : True := by
  k_with "call builtin:max" => (k_here; (with_reducible show wpAny _ _ (call (Value.builtin "max") [Value.int (Int.ofNat _) _, Value.int _ _]) _ _ _); k_dflt (refine' maxN0 ?mzH ?mzF ?mzN ?_; (case mzH => rfl); (case mzF => k_asm); (case mzN => k_asm)); intro t9 h9 tk9 F9 N9; (try dsimp only))
  k_with "call builtin:max" => (k_here; (with_reducible show wpAny _ _ (call (Value.builtin "max") [Value.int (Nat.cast _) _, Value.int _ _]) _ _ _); k_dflt (refine' maxN0 ?mxH ?mxF ?mxN ?_; (case mxH => rfl); (case mxF => k_asm); (case mxN => k_asm)); intro t9 h9 tk9 F9 N9; (try dsimp only))
  k_with "call builtin:min" => (k_here; (with_reducible show wpAny _ _ (call (Value.builtin "min") [Value.int (Nat.cast _) _, Value.int _ _]) _ _ _); k_dflt (refine' minNT ?miH ?miF ?miN ?miB ?_; (case miH => rfl); (case miF => k_asm); (case miN => k_asm); (case miB => omega)); intro t9 h9 tk9 F9 N9; (try dsimp only))
  k_with "compareOp LtE int" => (k_here; (with_reducible show wpAny _ _ (compareOp CmpOp.LtE (Value.int _ _) (Value.int _ _)) _ _ _); refine' leTrue ?leB ?_; (case leB => omega))
  trivial
theorem spanC (w : World) (a b : Nat) (ta tb : Tok) (sub : Led) (hab : (a = 97 ∧ b = 99) ∨ (a = 98 ∧ b = 122)) : Con w 120 [.int (a : Int) ta, .int (b : Int) tb] 100 1000 sub (fun x nw _ => ∃ c dc nc slc hc tc sp v ks, x = .ref c ∧ nw = [(c, (⟨.ref 227, some dc, .plain, slc⟩ : Obj)), (dc, dictOf [⟨hc, .str (Str.ofString "spans") tc, .ref sp⟩] nc), (sp, tupO #[v] ks)]) := by
  intro mean mg mb dp un gd cn cs a0 ccd cl0 outer A₀ base h₀ L m s Q E led B F X N hsub T hk hdp hu hret
  revert X; k_fill; intro X
  refine wpAny_call ?_
  k_dflt (refine' code_defL (vis := []) (led := led) ?k1 ?k2 ?k3 ?k4 ?kNL ?kd ?k5 ?kA ?kF ?kK ?k6 ?k7 ?k8 ?k9 ?kB ?_ ?c2 ?c3 ?c4 ?c5; (case kA => exact rfl); (case kF => exact rfl); (case kK => first | exact rfl | assumption); (case k1 => k_asm); (case k2 => k_asm); (case k3 => k_asm); (case k4 => exact News.nil); (case kNL => k_asm); (case kd => exact fun _ _ _ h => nomatch h); (case k5 => k_asm); (case k6 => k_is); (case k7 => k_is); (case k8 => ktr_room); (case k9 => exact BindsTo.of_eq rfl); (case c5 => decide); (case kB => exact locs rfl); (case c2 => exact rfl); (case c3 => exact rfl); (case c4 => exact rfl); k_whole; intro g' L' h' FG' F' N' B' X' T' hg' l1; (try dsimp only); (try k_fold))
  have fX9 : FoldX := ⟨⟩
  obtain ⟨hab1, hab2⟩ : a ≤ b ∧ b ≤ 122 := by omega
  clear hab
  k_steps
  have hE := endL (by assumption) (by assumption) hg' N (by assumption) (show ∀ p ∈ [_, _, (_, tupO #[_] _)], p ∈ _ from List.forall_mem_cons.mpr ⟨.head _, List.forall_mem_cons.mpr ⟨.tail _ (.head _), List.forall_mem_cons.mpr ⟨by k_mem, fun _ h => nomatch h⟩⟩⟩)
  refine' hret _ _ _ _ ?O hE.2 ?F hE.1
  (case F => k_asm)
  (case O => exact ⟨_, _, _, _, _, _, _, _, _, rfl, rfl⟩)

/-- where the tub and its cells lie in a ledger; f: the ledger with other objects there -/
inductive TubIn (tub cells : Addr) (o oc : Obj) : Led → (Obj → Obj → Led) → Prop
  | here {rest} : @Ne Nat tub cells → @Ne Nat cells tub → OwnOff rest [tub, cells] → TubIn tub cells o oc ((tub, o) :: (cells, oc) :: rest) (fun o' oc' => (tub, o') :: (cells, oc') :: rest)
  | next {p led f} : @Ne Nat p.1 tub → @Ne Nat p.1 cells → TubIn tub cells o oc led f → TubIn tub cells o oc (p :: led) (fun o' oc' => p :: f o' oc')
theorem TubIn.split {tub cells : Addr} {o oc : Obj} {led : Led} {f : Obj → Obj → Led} (h : TubIn tub cells o oc led f) : @Ne Nat tub cells ∧ @Ne Nat cells tub ∧ ∃ rest, OwnOff rest [tub, cells] ∧ (∀ p ∈ (tub, o) :: (cells, oc) :: rest, p ∈ led) ∧ ∀ o' oc', ∀ p ∈ f o' oc', p ∈ (tub, o') :: (cells, oc') :: rest := by
  induction h with
  | here a b c => exact ⟨a, b, _, c, fun _ h => h, fun _ _ _ h => h⟩
  | next a b _ ih =>
    rename_i p led f _
    first | (refine' ex4 (ih) ?_; intro _ _ _ _ h9e; walk_at "sp 2") | (refine' ex3 (ih) ?_; intro _ _ _ h9e; walk_at "sp 3") | (refine' ex2 (ih) ?_; intro _ _ h9e; walk_at "sp 4") | (refine' ex1 (ih) ?_; intro _ h9e; walk_at "sp 5") | (refine' and6 (ih) ?_; intro _ _ _ _ _ _ ) | (refine' and4 (ih) ?_; intro _ _ _ h9e; walk_at "sp 3") | (refine' and3 (ih) ?_; intro _ _ h9e; walk_at "sp 4") | (refine' and2 (ih) ?_; intro _ h9e; walk_at "sp 5") | (obtain ⟨_, _, _, _, _, _⟩ := ih)
    rename_i x y rest h1 h2 h3
    try (clear ih)
    refine ⟨x, y, p :: rest, ?_, ?_, ?_⟩
    · intro q hq
      rcases List.mem_cons.mp hq with rfl | hq
      · intro z hz
        rcases List.mem_cons.mp hz with rfl | hz
        · exact a
        · rw [List.mem_singleton.mp hz]; exact b
      · exact h1 q hq
    · intro q hq
      rcases List.mem_cons.mp hq with rfl | hq
      · exact .tail _ (h2 _ (.head _))
      · rcases List.mem_cons.mp hq with rfl | hq
        · exact .tail _ (h2 _ (.tail _ (.head _)))
        · rcases List.mem_cons.mp hq with rfl | hq
          · exact .head _
          · exact .tail _ (h2 _ (.tail _ (.tail _ hq)))
    · intro o' oc' q hq
      rcases List.mem_cons.mp hq with rfl | hq
      · exact .tail _ (.tail _ (.head _))
      · have := h3 o' oc' q hq
        rcases List.mem_cons.mp this with rfl | hq
        · exact .head _
        · rcases List.mem_cons.mp hq with rfl | hq
          · exact .tail _ (.head _)
          · exact .tail _ (.tail _ (.tail _ hq))
/-- the tub's state -/
def tubO (cells : Addr) (cur n salt : Int) (t1 t2 t3 : Tok) (k : Nat) : Obj := listOf [Value.ref cells, .int cur t1, .int n t2, .int salt t3].toArray k
structure TubOk (cur n salt : Int) (vs : List Value) (ns : List Int) (lim : Int) : Prop where
  isI : IntsAre vs ns
  len : ns.length < 100
  cur : 0 ≤ cur
  n0 : 0 ≤ n
  n1 : n < lim
  s0 : 0 ≤ salt
  s1 : salt < 1009
theorem cupT (w : World) {mean : ExcName → Option Value} {mg mb : Str → Option Value}
  {dp un : Nat} {gd : Option (List Code)} {cn : Str} {cs : Scope} {a : Addr} {ccd : Value} {cl : List (Str × Addr)} {outer : List Env} {A₀ : Around} {base h₀ : Heap} {L : Addr} {m : Str → Option Value} {s : Shared} {Q E : Value → Shared → Prop}
  {tub cells : Addr} {cur n salt many : Int} {nt nc : Nat} {t1 t2 t3 tm : Tok} {vs : List Value} {ns : List Int} {led : Led} {f : Obj → Obj → Led} {lim : Int}
  (B : Below A₀ base outer h₀) (F : Fr h₀ L s.heap m) (X : (kmk.heap_1 w.params).In h₀) (N : News h₀ L s.heap led) (hT : TubIn tub cells (tubO cells cur n salt t1 t2 t3 nt) (listOf vs.toArray nc) led f) (ok : TubOk cur n salt vs ns lim)
  (T : Top vw (looseW vw loose) mean mg mb h₀) (hk : cs.kind = .function) (hd1 : dp + 100 < recursionLimit) (hu1 : un + 500 < cLine) (hm0 : 0 < many) (hm1 : many < 100) (hlim : lim ≤ 1000000)
  (hret : ∀ (r cur' : Int) (t t1' t2' t3' : Tok) (nt' nc' : Nat) (vs' : List Value) (ns' : List Int) (h' : Heap) (tk' : Nat), 0 ≤ r → r < many → TubOk cur' (n + 1) salt vs' ns' (lim + 1) → Fr h₀ L h' m →
    News h₀ L h' (f (tubO cells cur' (n + 1) salt t1' t2' t3' nt') (listOf vs'.toArray nc')) → Q (.int r t) { s with heap := h', toks := tk' }) :
  wpAny (model PySem.Challenge.rw_qd0068_01.row.prog w) (ktrTop dp un gd cn cs L a ccd cl outer) (call (.ref 724) [.ref tub, .int many tm]) Q E s := by
  first | (refine' ex4 (hT.split) ?_; intro _ _ _ _ h9e; walk_at "sp 2") | (refine' ex3 (hT.split) ?_; intro _ _ _ h9e; walk_at "sp 3") | (refine' ex2 (hT.split) ?_; intro _ _ h9e; walk_at "sp 4") | (refine' ex1 (hT.split) ?_; intro _ h9e; walk_at "sp 5") | (refine' and6 (hT.split) ?_; intro _ _ _ _ _ _ ) | (refine' and4 (hT.split) ?_; intro _ _ _ h9e; walk_at "sp 3") | (refine' and3 (hT.split) ?_; intro _ _ h9e; walk_at "sp 4") | (refine' and2 (hT.split) ?_; intro _ h9e; walk_at "sp 5") | (obtain ⟨_, _, _, _, _, _⟩ := hT.split)
  rename_i h1 h2 rest ho hi hf
  refine cup w mean mg mb dp un gd cn cs a ccd cl outer A₀ base h₀ L m s Q E B F X tub cells cur n salt many nt nc t1 t2 t3 tm vs ns rest (newsSub N hi) h1 h2 ho ok.isI ok.len T hk hd1 hu1 hm0 hm1 ok.cur ok.n0 (Int.lt_of_lt_of_le ok.n1 hlim) ok.s0 ok.s1 ?_
  intro r cur' t t1' t2' t3' nt' nc' vs' ns' h' tk' r0 r1 c0 hi' hl' F' N'
  exact hret r cur' t t1' t2' t3' nt' nc' vs' ns' h' tk' r0 r1 ⟨hi', Nat.lt_of_le_of_lt hl' ok.len, c0, Int.le_trans ok.n0 (by omega), by have := ok.n1; omega, ok.s0, ok.s1⟩ F' (newsSub N' (hf _ _))

/-- a CharSet: full or empty -/
def CsAt (led : Led) (v : Value) (full : Bool) : Prop := ∃ c dc nc slc hc tc sp its ks, v = .ref c ∧ (c, (⟨.ref 227, some dc, .plain, slc⟩ : Obj)) ∈ led ∧ (dc, dictOf [⟨hc, .str (Str.ofString "spans") tc, .ref sp⟩] nc) ∈ led ∧ (sp, tupO its ks) ∈ led ∧ ((full = true ∧ ∃ y, its = #[y]) ∨ (full = false ∧ its = #[]))
theorem Con.imp {w : World} {f : Addr} {args : List Value} {D U : Nat} {sub : Led} {Out Out' : Value → Led → Led → Prop} (C : Con w f args D U sub Out) (h : ∀ v nw led, Out v nw led → Out' v nw led) : Con w f args D U sub Out' :=
  fun _ _ _ _ _ _ _ _ _ _ _ _ _ _ _ _ _ _ _ _ _ B F X N hs T hk hd hu hret => C _ _ _ _ _ _ _ _ _ _ _ _ _ _ _ _ _ _ _ _ _ B F X N hs T hk hd hu fun v nw h' tk' o l F' N' => hret v nw h' tk' (h _ _ _ o) l F' N'
theorem spanK (w : World) (a b : Nat) (ta tb : Tok) (hab : (a = 97 ∧ b = 99) ∨ (a = 98 ∧ b = 122)) : Con w 120 [.int (a : Int) ta, .int (b : Int) tb] 100 1000 [] (fun x nw _ => CsAt nw x true) := by
    refine (spanC w a b ta tb [] hab).imp ?_
    intro z1 z2 z3 hx
    first | (refine' ex8 (hx) ?_; intro _ _ _ _ _ _ _ _ h9e; walk_at "sp 3") | (refine' ex6 (hx) ?_; intro _ _ _ _ _ _ h9e; walk_at "sp 5") | (refine' ex4 (hx) ?_; intro _ _ _ _ h9e; walk_at "sp 7") | (refine' ex3 (hx) ?_; intro _ _ _ h9e; walk_at "sp 8") | (refine' ex2 (hx) ?_; intro _ _ h9e; walk_at "sp 9") | (refine' ex1 (hx) ?_; intro _ h9e; walk_at "sp 10") | (refine' and6 (hx) ?_; intro _ _ _ _ _ h9e; walk_at "sp 6") | (refine' and4 (hx) ?_; intro _ _ _ h9e; walk_at "sp 8") | (refine' and3 (hx) ?_; intro _ _ h9e; walk_at "sp 9") | (refine' and2 (hx) ?_; intro _ h9e; walk_at "sp 10") | (obtain ⟨_, _, _, _, _, _, _, _, _, _, _⟩ := hx)
    rename_i c dc nc slc hc tc sp v ks e e'
    try (clear hx)
    subst e e'
    exact ⟨c, dc, nc, slc, hc, tc, sp, _, ks, rfl, .head _, .tail _ (.head _), .tail _ (.tail _ (.head _)), .inl ⟨rfl, v, rfl⟩⟩
theorem charsK (w : World) (v : Value) (full : Bool) (sub : Led) (hv : CsAt sub v full) : Con w 307 [v] 20 200 sub (fun x nw _ => NodeAt (nw ++ sub) x (.chars full)) := by
  intro mean mg mb dp un gd cn cs a0 ccd cl0 outer A₀ base h₀ L m s Q E led B F X N hsub T hk hdp hu hret
  revert X; k_fill; intro X
  first | (refine' ex8 (hv) ?_; intro _ _ _ _ _ _ _ _ h9e; walk_at "sp 3") | (refine' ex6 (hv) ?_; intro _ _ _ _ _ _ h9e; walk_at "sp 5") | (refine' ex4 (hv) ?_; intro _ _ _ _ h9e; walk_at "sp 7") | (refine' ex3 (hv) ?_; intro _ _ _ h9e; walk_at "sp 8") | (refine' ex2 (hv) ?_; intro _ _ h9e; walk_at "sp 9") | (refine' ex1 (hv) ?_; intro _ h9e; walk_at "sp 10") | (refine' and6 (hv) ?_; intro _ _ _ _ _ h9e; walk_at "sp 6") | (refine' and4 (hv) ?_; intro _ _ _ h9e; walk_at "sp 8") | (refine' and3 (hv) ?_; intro _ _ h9e; walk_at "sp 9") | (refine' and2 (hv) ?_; intro _ h9e; walk_at "sp 10") | (obtain ⟨_, _, _, _, _, _, _, _, _, _, _⟩ := hv)
  rename_i c dc nc slc hc tc sp its ks e9x1285 r9x1286
  try (clear hv)
  subst e9x1285
  first | (refine' ex3 (r9x1286) ?_; intro _ _ _ _ ) | (refine' ex2 (r9x1286) ?_; intro _ _ h9e; walk_at "sp 2") | (refine' ex1 (r9x1286) ?_; intro _ h9e; walk_at "sp 3") | (refine' and4 (r9x1286) ?_; intro _ _ _ _ ) | (refine' and3 (r9x1286) ?_; intro _ _ h9e; walk_at "sp 2") | (refine' and2 (r9x1286) ?_; intro _ h9e; walk_at "sp 3") | (obtain ⟨_, _, _, _⟩ := r9x1286)
  rename_i m1 m2 m3 m4
  try (clear r9x1286)
  (try (with_reducible show wpAny _ _ _ _ _ _))
  (try k_fold)
  k_steps
  refine' hret _ [_, _] _ _ ?A ?o ?F ?N
  (case F => k_asm)
  (case N => walk_at "k_news")
  (case o => walk_at "k_ord")
  (case A => (rcases m4 with ⟨rfl, y, rfl⟩ | ⟨rfl, rfl⟩; exact .chars (.head _) (.tail _ (.head _)) (.tail _ (.tail _ m1)) (.tail _ (.tail _ m2)) (.tail _ (.tail _ m3)); exact .charsE (.head _) (.tail _ (.head _)) (.tail _ (.tail _ m1)) (.tail _ (.tail _ m2)) (.tail _ (.tail _ m3))))
theorem starK (w : World) (v : Value) (b : Nd) (sub : Led) (hv : NodeAt sub v b) : Con w 409 [v] 20 200 sub (fun x nw _ => NodeAt (nw ++ sub) x (.star b)) := by
  intro mean mg mb dp un gd cn cs a0 ccd cl0 outer A₀ base h₀ L m s Q E led B F X N hsub T hk hdp hu hret
  revert X; k_fill; intro X
  obtain ⟨xb, rfl⟩ := hv.ref
  (try (with_reducible show wpAny _ _ _ _ _ _))
  (try k_fold)
  k_steps
  refine' hret _ [_, _] _ _ (.star (.head _) (.tail _ (.head _)) (hv.mono fun p hp => .tail _ (.tail _ hp))) ?o ?F ?N
  (case F => k_asm)
  (case N => walk_at "k_news")
  (case o => walk_at "k_ord")
theorem plusK (w : World) (v : Value) (b : Nd) (sub : Led) (hv : NodeAt sub v b) : Con w 421 [v] 20 200 sub (fun x nw _ => NodeAt (nw ++ sub) x (.plus b)) := by
  intro mean mg mb dp un gd cn cs a0 ccd cl0 outer A₀ base h₀ L m s Q E led B F X N hsub T hk hdp hu hret
  revert X; k_fill; intro X
  obtain ⟨xb, rfl⟩ := hv.ref
  (try (with_reducible show wpAny _ _ _ _ _ _))
  (try k_fold)
  k_steps
  refine' hret _ [_, _] _ _ (.plus (.head _) (.tail _ (.head _)) (hv.mono fun p hp => .tail _ (.tail _ hp))) ?o ?F ?N
  (case F => k_asm)
  (case N => walk_at "k_news")
  (case o => walk_at "k_ord")
theorem optK (w : World) (v : Value) (b : Nd) (sub : Led) (hv : NodeAt sub v b) : Con w 433 [v] 20 200 sub (fun x nw _ => NodeAt (nw ++ sub) x (.opt b)) := by
  intro mean mg mb dp un gd cn cs a0 ccd cl0 outer A₀ base h₀ L m s Q E led B F X N hsub T hk hdp hu hret
  revert X; k_fill; intro X
  obtain ⟨xb, rfl⟩ := hv.ref
  (try (with_reducible show wpAny _ _ _ _ _ _))
  (try k_fold)
  k_steps
  refine' hret _ [_, _] _ _ (.opt (.head _) (.tail _ (.head _)) (hv.mono fun p hp => .tail _ (.tail _ hp))) ?o ?F ?N
  (case F => k_asm)
  (case N => walk_at "k_news")
  (case o => walk_at "k_ord")
theorem catK (w : World) (v v2 : Value) (l r : Nd) (sub sub2 : Led) (hv : NodeAt sub v l) (hv2 : NodeAt sub2 v2 r) : Con w 352 [v, v2] 20 200 (sub ++ sub2) (fun x nw _ => NodeAt (nw ++ (sub ++ sub2)) x (.cat l r)) := by
  intro mean mg mb dp un gd cn cs a0 ccd cl0 outer A₀ base h₀ L m s Q E led B F X N hsub T hk hdp hu hret
  revert X; k_fill; intro X
  obtain ⟨xl, rfl⟩ := hv.ref
  obtain ⟨xr, rfl⟩ := hv2.ref
  (try (with_reducible show wpAny _ _ _ _ _ _))
  (try k_fold)
  k_steps
  refine' hret _ [_, _] _ _ (.cat (.head _) (.tail _ (.head _)) (hv.mono fun p hp => .tail _ (.tail _ (List.mem_append.mpr (.inl hp)))) (hv2.mono fun p hp => .tail _ (.tail _ (List.mem_append.mpr (.inr hp))))) ?o ?F ?N
  (case F => k_asm)
  (case N => walk_at "k_news")
  (case o => walk_at "k_ord")
theorem altK (w : World) (v v2 : Value) (l r : Nd) (sub sub2 : Led) (hv : NodeAt sub v l) (hv2 : NodeAt sub2 v2 r) : Con w 364 [v, v2] 20 200 (sub ++ sub2) (fun x nw _ => NodeAt (nw ++ (sub ++ sub2)) x (.alt l r)) := by
  intro mean mg mb dp un gd cn cs a0 ccd cl0 outer A₀ base h₀ L m s Q E led B F X N hsub T hk hdp hu hret
  revert X; k_fill; intro X
  obtain ⟨xl, rfl⟩ := hv.ref
  obtain ⟨xr, rfl⟩ := hv2.ref
  (try (with_reducible show wpAny _ _ _ _ _ _))
  (try k_fold)
  k_steps
  refine' hret _ [_, _] _ _ (.alt (.head _) (.tail _ (.head _)) (hv.mono fun p hp => .tail _ (.tail _ (List.mem_append.mpr (.inl hp)))) (hv2.mono fun p hp => .tail _ (.tail _ (List.mem_append.mpr (.inr hp))))) ?o ?F ?N
  (case F => k_asm)
  (case N => walk_at "k_news")
  (case o => walk_at "k_ord")
theorem emptyK (w : World) : Con w 269 [] 20 200 [] (fun x nw _ => NodeAt nw x .empty) := by
  intro mean mg mb dp un gd cn cs a0 ccd cl0 outer A₀ base h₀ L m s Q E led B F X N hsub T hk hdp hu hret
  revert X; k_fill; intro X
  (try (with_reducible show wpAny _ _ _ _ _ _))
  (try k_fold)
  k_steps
  refine' hret _ [_, _] _ _ (.empty (.head _) (.tail _ (.head _))) ?o ?F ?N
  (case F => k_asm)
  (case N => walk_at "k_news")
  (case o => walk_at "k_ord")
theorem neverK (w : World) : Con w 281 [] 20 200 [] (fun x nw _ => NodeAt nw x .never) := by
  intro mean mg mb dp un gd cn cs a0 ccd cl0 outer A₀ base h₀ L m s Q E led B F X N hsub T hk hdp hu hret
  revert X; k_fill; intro X
  (try (with_reducible show wpAny _ _ _ _ _ _))
  (try k_fold)
  k_steps
  refine' hret _ [_, _] _ _ (.never (.head _) (.tail _ (.head _))) ?o ?F ?N
  (case F => k_asm)
  (case N => walk_at "k_news")
  (case o => walk_at "k_ord")
theorem repK (w : World) (v : Value) (b : Nd) (hi : Nat) (ta tb : Tok) (sub : Led) (hv : NodeAt sub v b) (hh : hi = 0 ∨ hi = 2) : Con w 459 [v, .int 0 ta, .int (hi : Int) tb] 60 400 sub (fun x nw _ => NodeAt (nw ++ sub) x (.rep b hi)) := by
  intro mean mg mb dp un gd cn cs a0 ccd cl0 outer A₀ base h₀ L m s Q E led B F X N hsub T hk hdp hu hret
  revert X; k_fill; intro X
  obtain ⟨xb, rfl⟩ := hv.ref
  have hlo : (hi : Int) ≤ 40 ∧ (0 : Int) ≤ (hi : Int) := by omega
  (try (with_reducible show wpAny _ _ _ _ _ _))
  (try k_fold)
  k_steps
  refine' hret _ [_, _] _ _ (.rep (.head _) (.tail _ (.head _)) (hv.mono fun p hp => .tail _ (.tail _ hp))) ?o ?F ?N
  (case F => k_asm)
  (case N => walk_at "k_news")
  (case o => walk_at "k_ord")
theorem noneK (w : World) : Con w 82 [] 60 400 [] (fun x nw _ => CsAt nw x false) := by
  intro mean mg mb dp un gd cn cs a0 ccd cl0 outer A₀ base h₀ L m s Q E led B F X N hsub T hk hdp hu hret
  revert X; k_fill; intro X
  refine wpAny_call ?_
  k_dflt walk_at "k_enter"
  (try (with_reducible show wpAny _ _ _ _ _ _))
  (try k_fold)
  k_steps
  refine' hret _ [_, _, _] _ _ ⟨_, _, _, _, _, _, _, _, _, rfl, .head _, .tail _ (.head _), .tail _ (.tail _ (.head _)), .inr ⟨rfl, rfl⟩⟩ ?o ?F ?N
  (case F => k_asm)
  (case N => walk_at "k_news")
  (case o => walk_at "k_ord")

def posL (b : Nd) : Bool := match mlen b with | none => true | some x => decide (¬ x ≤ 0)
def BodyAt (led : Led) (v : Value) (g : Bool) : Prop := ∃ b, NodeAt led v b ∧ b.ok = true ∧ b.sz ≤ 6 ∧ posL b = g
def TrlAt (led : Led) (v : Value) (g : Bool) : Prop := ∃ tr : Option Nd, TrailAt led v tr ∧ (match tr with | none => true | some d => decide (mlen d ≠ some (-1))) = g
theorem BodyAt.of {sub led : Led} {v : Value} {b : Nd} {g : Bool} (h : NodeAt sub v b) (hs : ∀ p ∈ sub, p ∈ led) (h1 : (b.ok && decide (b.sz ≤ 6) && (posL b == g)) = true) : BodyAt led v g := by
  simp only [Bool.and_eq_true, decide_eq_true_eq, beq_iff_eq] at h1
  exact ⟨b, h.mono hs, h1.1.1, h1.1.2, h1.2⟩
theorem TrlAt.of {sub led : Led} {v : Value} {b : Nd} {g : Bool} (h : NodeAt sub v b) (hs : ∀ p ∈ sub, p ∈ led) (h1 : (b.ok && decide (b.sz ≤ 6) && (decide (mlen b ≠ some (-1)) == g)) = true) : TrlAt led v g := by
  simp only [Bool.and_eq_true, decide_eq_true_eq, beq_iff_eq] at h1
  exact ⟨some b, ⟨h.mono hs, h1.1.1, h1.1.2⟩, h1.2⟩
theorem TrlAt.no {led : Led} : TrlAt led .none true := ⟨none, rfl, rfl⟩
theorem PatAt.mk {x d : Addr} {n : Nat} {sl h t h2 t2 h3 t3} {vb vt : Value} {bg g1 g2 g : Bool} {rest : Led} (hb : BodyAt rest vb g1) (ht : TrlAt rest vt g2) (hg : (g1 && g2) = g) :
    PatAt ((x, (⟨.ref 506, some d, .plain, sl⟩ : Obj)) :: (d, dictOf [⟨h, .str (Str.ofString "body") t, vb⟩, ⟨h2, .str (Str.ofString "begins") t2, .bool bg⟩, ⟨h3, .str (Str.ofString "trail") t3, vt⟩] n) :: rest) (.ref x) g := by
  first | (refine' ex4 (hb) ?_; intro _ _ _ _ _ ) | (refine' ex3 (hb) ?_; intro _ _ _ h9e; walk_at "sp 2") | (refine' ex2 (hb) ?_; intro _ _ h9e; walk_at "sp 3") | (refine' ex1 (hb) ?_; intro _ h9e; walk_at "sp 4") | (refine' and4 (hb) ?_; intro _ _ _ h9e; walk_at "sp 2") | (refine' and3 (hb) ?_; intro _ _ h9e; walk_at "sp 3") | (refine' and2 (hb) ?_; intro _ h9e; walk_at "sp 4") | (obtain ⟨_, _, _, _, _⟩ := hb)
  rename_i b h1 h2 h3 h4
  try (clear hb)
  obtain ⟨tr, k1, k2⟩ := ht
  refine ⟨x, d, n, sl, h, t, _, t2, _, t3, vb, bg, vt, b, tr, rfl, .head _, .tail _ (.head _), h1.mono fun _ hp => .tail _ (.tail _ hp), h2, h3, k1.mono fun _ hp => .tail _ (.tail _ hp), ?_⟩
  rw [← hg, ← h4, ← k2]
  rfl
theorem patEnd {h₀ g h h' : Heap} {L L' x d tub cells : Addr} {ox od o oc : Obj} {rest led : Led} {m' : Str → Option Value} (F' : Fr g L' h' m') (N' : News g L' h' ((x, ox) :: (d, od) :: (tub, o) :: (cells, oc) :: rest)) (hg : ∀ p ∈ led, g.get? p.1 = some p.2) (NL : News h₀ L h led) (kN : News h₀ L h' ((x, ox) :: (d, od) :: (tub, o) :: (cells, oc) :: rest)) :
    News h₀ L h' ((tub, o) :: (cells, oc) :: (((x, ox) :: (d, od) :: rest) ++ led)) ∧ ∀ q ∈ led, ∀ p ∈ (x, ox) :: (d, od) :: rest, @Ne Nat q.1 p.1 := by
  have e := endL (nw' := (tub, o) :: (cells, oc) :: ((x, ox) :: (d, od) :: rest)) F' N' hg NL kN (List.forall_mem_cons.mpr ⟨.tail _ (.tail _ (.head _)), List.forall_mem_cons.mpr ⟨.tail _ (.tail _ (.tail _ (.head _))), List.forall_mem_cons.mpr ⟨.head _, List.forall_mem_cons.mpr ⟨.tail _ (.head _), fun _ hp => .tail _ (.tail _ (.tail _ (.tail _ hp)))⟩⟩⟩⟩)
  exact ⟨e.1, fun q hq p hp => e.2 q hq p (.tail _ (.tail _ hp))⟩
theorem ownPair {x d tub cells : Addr} {ox od : Obj} {rest : Led} (h : (@Ne Nat x tub ∧ @Ne Nat x cells) ∧ (@Ne Nat d tub ∧ @Ne Nat d cells)) (ho : OwnOff rest [tub, cells]) : OwnOff ((x, ox) :: (d, od) :: rest) [tub, cells] := by
  intro p hp z hz
  have hz : z = tub ∨ z = cells := by simpa using hz
  rcases List.mem_cons.mp hp with rfl | hp
  · rcases hz with rfl | rfl
    · exact h.1.1
    · exact h.1.2
  · rcases List.mem_cons.mp hp with rfl | hp
    · rcases hz with rfl | rfl
      · exact h.2.1
      · exact h.2.2
    · exact ho p hp z (by simpa using hz)
theorem TubOk.le {cur n salt : Int} {vs : List Value} {ns : List Int} {lim lim' : Int} (h : TubOk cur n salt vs ns lim) (hl : lim ≤ lim') : TubOk cur n salt vs ns lim' := ⟨h.isI, h.len, h.cur, h.n0, Int.lt_of_lt_of_le h.n1 hl, h.s0, h.s1⟩
theorem nilSub {c : Led} : ∀ p ∈ ([] : Led), p ∈ c := fun _ h => nomatch h
theorem subApp {a b c : Led} (h : ∀ p ∈ a, p ∈ c) (h' : ∀ p ∈ b, p ∈ c) : ∀ p ∈ a ++ b, p ∈ c := fun p hp => (List.mem_append.mp hp).elim (h p) (h' p)
theorem News.drop1 {h₀ h : Heap} {L : Addr} {p : Addr × Obj} {led : Led} (N : News h₀ L h (p :: led)) : News h₀ L h led := newsSub N fun _ hp => .tail _ hp
theorem tubFirst {h₀ h : Heap} {L tub cells : Addr} {o oc : Obj} {nw rest : Led} (N : News h₀ L h (nw ++ (tub, o) :: (cells, oc) :: rest)) (l : ∀ q ∈ (tub, o) :: (cells, oc) :: rest, ∀ p ∈ nw, @Ne Nat q.1 p.1) (off : OwnOff rest [tub, cells]) :
    News h₀ L h ((tub, o) :: (cells, oc) :: (nw ++ rest)) ∧ OwnOff (nw ++ rest) [tub, cells] := by
  refine ⟨newsSub N (List.forall_mem_cons.mpr ⟨List.mem_append.mpr (.inr (.head _)), List.forall_mem_cons.mpr ⟨List.mem_append.mpr (.inr (.tail _ (.head _))), fun p hp => ?_⟩⟩), fun p hp z hz => ?_⟩
  · rcases List.mem_append.mp hp with h | h
    · exact List.mem_append.mpr (.inl h)
    · exact List.mem_append.mpr (.inr (.tail _ (.tail _ h)))
  · rcases List.mem_append.mp hp with h | h
    · rcases List.mem_cons.mp hz with rfl | hz
      · exact (l _ (.head _) p h).symm
      · rw [List.mem_singleton.mp hz]; exact (l _ (.tail _ (.head _)) p h).symm
    · exact off p h z hz
theorem tubFirst1 {h₀ h : Heap} {L tub cells : Addr} {o oc : Obj} {nw rest : Led} {p : Addr × Obj} (N : News h₀ L h (nw ++ p :: (tub, o) :: (cells, oc) :: rest)) (l : ∀ q ∈ p :: (tub, o) :: (cells, oc) :: rest, ∀ p ∈ nw, @Ne Nat q.1 p.1) (off : OwnOff rest [tub, cells]) :
    News h₀ L h ((tub, o) :: (cells, oc) :: (nw ++ rest)) ∧ OwnOff (nw ++ rest) [tub, cells] :=
  tubFirst (newsSub N fun _ hp => (List.mem_append.mp hp).elim (fun h => List.mem_append.mpr (.inl h)) fun h => List.mem_append.mpr (.inr (.tail _ h))) (fun q hq => l q (.tail _ hq)) off
theorem tubFirstL {h₀ h : Heap} {L tub cells : Addr} {o oc : Obj} {nw rest : Led} (N : News h₀ L h (nw ++ (tub, o) :: (cells, oc) :: rest)) (l : ∀ q ∈ (tub, o) :: (cells, oc) :: rest, ∀ p ∈ nw, @Ne Nat q.1 p.1) (off : OwnOff rest [tub, cells]) :
    ∃ r : Led, News h₀ L h ((tub, o) :: (cells, oc) :: r) ∧ OwnOff r [tub, cells] ∧ ∀ p ∈ nw ++ rest, p ∈ r := ⟨_, (tubFirst N l off).1, (tubFirst N l off).2, fun _ h => h⟩
theorem tubFirstL1 {h₀ h : Heap} {L tub cells : Addr} {o oc : Obj} {nw rest : Led} {p : Addr × Obj} (N : News h₀ L h (nw ++ p :: (tub, o) :: (cells, oc) :: rest)) (l : ∀ q ∈ p :: (tub, o) :: (cells, oc) :: rest, ∀ p ∈ nw, @Ne Nat q.1 p.1) (off : OwnOff rest [tub, cells]) :
    ∃ r : Led, News h₀ L h ((tub, o) :: (cells, oc) :: r) ∧ OwnOff r [tub, cells] ∧ ∀ p ∈ nw ++ rest, p ∈ r := ⟨_, (tubFirst1 N l off).1, (tubFirst1 N l off).2, fun _ h => h⟩
theorem inK9 {K : Frag} {h₀ h : Heap} {L : Addr} {m : Str → Option Value} (F : Fr h₀ L h m) (X : K.In h₀) : K.In h := X.keeps F.keep
theorem bk9 {a c : Led} {p : Addr × Obj} (H : ∀ p ∈ a, p ∈ c) (h : p ∈ a) : p ∈ c := H p h
theorem itemTup {prog : Program} {w : World} {A : Around} {E : Value → Shared → Prop} {s : Shared} {h₀ : Heap} {L t : Addr} {news : Led} {value slice : PySem.Expr} {vs : List Value} {k : Nat} {i : Int} {u : Tok} {Q : Value → Shared → Prop}
    (N : News h₀ L s.heap news) (hm : (t, tupO vs.toArray k) ∈ news) (h0 : 0 ≤ i) (h1 : i < vs.length) (hl : vs.length < 100) (h : ∀ v ∈ vs, Q v s)
    (hs : subscripted slice false (.ref t) (.int i u) = operate [.ref t, .int i u] (getItem (.ref t) (.int i u)) := by with_unfolding_all rfl) :
    wpAny (model prog w) A (subscriptTail value slice (.ref t) (.int i u)) Q E s := by
  obtain ⟨j, rfl⟩ : ∃ j : Nat, i = (j : Int) := ⟨i.toNat, by omega⟩
  have hj : j < vs.length := by omega
  have ht : IsTup s.heap t vs.toArray := ⟨_, (N _ hm).1, rfl, k, rfl⟩
  refine tail_any ht.typeIs slot_tuple_getitem.lookup (PyProof.Rows.getItem_tuple (j := j) (x := vs[j]) ht (by omega) (by omega) ?_ ?_ (h _ (List.getElem_mem hj))) hs
  · unfold seqIndex?; simp; omega
  · simp
theorem words_pat_1 : True := by
  k_with "TubIn" => first
    | exact TubIn.here (by assumption) (by assumption) (by assumption)
    | (refine' TubIn.next ?tiX ?tiY ?tiZ; (case tiZ => walk_at "TubIn"); (case tiX => first | assumption | k_ne); (case tiY => first | assumption | k_ne))
  k_with "call ref" => (k_here; (with_reducible show wpAny _ _ (call (Value.ref 724) [Value.ref _, Value.int _ _] []) _ _ _); k_dflt (refine' cupT _ ?B ?F ?X ?N ?TI ?ok ?T ?kK ?d ?u ?m0 ?m1 ?lim ?_; (case N => k_asm); (case TI => walk_at "TubIn"); (case ok => assumption); (case B => k_asm); (case F => k_asm); (case X => k_asm); (case T => k_asm); (case kK => first | exact rfl | assumption); (case d => ktr_room); (case u => ktr_units); (case m0 => first | omega | decide); (case m1 => first | omega | decide); (case lim => omega)); intro r9 cur9 t9 a9 b9 c9 nt9 nc9 vs9 ns9 h9 tk9 lo9 hi9 ok9 F9 N9; (try dsimp only at N9); (try dsimp only); (try k_fold))
  k_with "my sub" => first
    | exact nilSub
    | (refine subApp ?_ ?_ <;> walk_at "my sub")
    | (intro p9 h9; walk_at "in9")
  k_with "in9" => first
    | exact h9
    | exact List.mem_append.mpr (Or.inl h9)
    | (refine List.mem_append.mpr (Or.inr ?_); walk_at "in9")
    | (refine' List.Mem.tail _ ?_; walk_at "in9")
    | (refine' bk9 ?bkH ?bkh; (case bkH => assumption); (case bkh => walk_at "in9"))
  k_with "subscriptTail" => (k_here; (with_reducible show wpAny _ _ (subscriptTail _ _ (Value.ref _) (Value.int _ _)) _ _ _); k_dflt (refine' itemTup ?N ?m ?a ?b ?c ?_ ?s; (case N => k_asm); (case m => exact List.Mem.head _); (case a => assumption); (case b => (simp only [List.length_cons, List.length_nil]; omega)); (case c => (simp only [List.length_cons, List.length_nil]; omega)); (case s => with_unfolding_all rfl)); intro v9 hv9; (rename News _ _ _ _ => N8); (have N9 := News.drop1 N8); clear N8)
  k_with "con" => with_reducible exact Con.mono (spanK _ 97 99 _ _ (Or.inl ⟨rfl, rfl⟩)) nilSub
  k_with "con" => with_reducible exact Con.mono (spanK _ 98 122 _ _ (Or.inr ⟨rfl, rfl⟩)) nilSub
  k_with "con" => first | with_reducible exact Con.mono (emptyK _) (nilSub) | with_reducible exact Con.mono (neverK _) (nilSub) | with_reducible exact Con.mono (noneK _) (nilSub)
  k_with "con" => ((with_reducible refine' Con.mono (charsK _ _ _ _ ?ca) ?sb); (case ca => assumption); (case sb => walk_at "my sub"))
  k_with "con" => ((with_reducible refine' Con.mono (starK _ _ _ _ ?ca) ?sb); (case ca => assumption); (case sb => walk_at "my sub"))
  k_with "con" => ((with_reducible refine' Con.mono (plusK _ _ _ _ ?ca) ?sb); (case ca => assumption); (case sb => walk_at "my sub"))
  k_with "con" => ((with_reducible refine' Con.mono (optK _ _ _ _ ?ca) ?sb); (case ca => assumption); (case sb => walk_at "my sub"))
  k_with "con" => ((with_reducible refine' Con.mono (catK _ _ _ _ _ _ _ ?ca ?cb) ?sb); (case ca => assumption); (case cb => assumption); (case sb => walk_at "my sub"))
  k_with "con" => ((with_reducible refine' Con.mono (altK _ _ _ _ _ _ _ ?ca ?cb) ?sb); (case ca => assumption); (case cb => assumption); (case sb => walk_at "my sub"))
  k_with "con" => ((with_reducible refine' Con.mono (repK _ _ _ 2 _ _ _ ?ca (Or.inr rfl)) ?sb); (case ca => assumption); (case sb => walk_at "my sub"))
  k_with "con" => ((with_reducible refine' Con.mono (repK _ _ _ 0 _ _ _ ?ca (Or.inl rfl)) ?sb); (case ca => assumption); (case sb => walk_at "my sub"))
  k_with "con out" => ((rename OwnOff _ _ => of9); (first | (have q9 := tubFirstL N9 l9 of9) | (have q9 := tubFirstL1 N9 l9 of9)); clear l9 N9 of9; obtain ⟨rest9, N9, off9, sub9⟩ := q9)
  k_with "callWith ref" => (k_here; (with_reducible show wpAny _ _ (callWith _ _ _ (backTo _ (starEach [] _)) []) _ _ _); k_dflt (refine' callWith_K0 ?k1 ?k2 ?_; (case k1 => (refine' inK9 ?kf ?kx; (case kf => with_reducible assumption); (case kx => with_reducible assumption))); (case k2 => k_is); k_whole))
  trivial
theorem patC (w : World) {mean : ExcName → Option Value} {mg mb : Str → Option Value}
  {dp un : Nat} {gd : Option (List Code)} {cn : Str} {cs : Scope} {a0 : Addr} {ccd : Value} {cl0 : List (Str × Addr)} {outer : List Env} {A₀ : Around} {base h₀ : Heap} {L : Addr} {m : Str → Option Value} {s : Shared} {Q E : Value → Shared → Prop}
  {tub cells : Addr} {cur n salt : Int} {nt nc : Nat} {t1 t2 t3 : Tok} {vs : List Value} {ns : List Int} {led : Led} {lim : Int} {good : Bool}
  (B : Below A₀ base outer h₀) (F : Fr h₀ L s.heap m) (X : (kmk.heap_1 w.params).In h₀) (N : News h₀ L s.heap ((tub, tubO cells cur n salt t1 t2 t3 nt) :: (cells, listOf vs.toArray nc) :: led))
  (htc : @Ne Nat tub cells) (hct : @Ne Nat cells tub) (hoff : OwnOff led [tub, cells]) (ok : TubOk cur n salt vs ns lim)
  (T : Top vw (looseW vw loose) mean mg mb h₀) (hk : cs.kind = .function) (hd1 : dp + 300 < recursionLimit) (hu1 : un + 2000 < cLine) (hlim : lim ≤ 900000)
  (hret : ∀ (v : Value) (nw : Led) (cur' n' : Int) (t1' t2' t3' : Tok) (nt' nc' : Nat) (vs' : List Value) (ns' : List Int) (h' : Heap) (tk' : Nat), PatAt nw v good → TubOk cur' n' salt vs' ns' (lim + 4) → OwnOff nw [tub, cells] → (∀ q ∈ led, ∀ p ∈ nw, @Ne Nat q.1 p.1) → Fr h₀ L h' m →
    News h₀ L h' ((tub, tubO cells cur' n' salt t1' t2' t3' nt') :: (cells, listOf vs'.toArray nc') :: (nw ++ led)) → Q v { s with heap := h', toks := tk' }) :
  wpAny (model PySem.Challenge.rw_qd0068_01.row.prog w) (ktrTop dp un gd cn cs L a0 ccd cl0 outer) (call (.ref 731) [.ref tub, .bool good]) Q E s := by
  revert X; k_fill; intro X
  have NL : News h₀ L s.heap led := newsSub N fun p hp => .tail _ (.tail _ hp)
  have N2 : News h₀ L s.heap [(tub, tubO cells cur n salt t1 t2 t3 nt), (cells, listOf vs.toArray nc)] := newsSub N (List.forall_mem_cons.mpr ⟨.head _, List.forall_mem_cons.mpr ⟨.tail _ (.head _), fun _ h => nomatch h⟩⟩)
  refine wpAny_call ?_
  k_dflt (refine' code_defL (vis := [(tub, tubO cells cur n salt t1 t2 t3 nt), (cells, listOf vs.toArray nc)]) (led := led) ?k1 ?k2 ?k3 ?k4 ?kNL ?kd ?k5 ?kA ?kF ?kK ?k6 ?k7 ?k8 ?k9 ?kB ?_ ?c2 ?c3 ?c4 ?c5; (case kA => exact rfl); (case kF => exact rfl); (case kK => first | exact rfl | assumption); (case k1 => k_asm); (case k2 => k_asm); (case k3 => k_asm); (case k4 => exact N2); (case kNL => exact NL); (case kd => exact fun q hq => List.forall_mem_cons.mpr ⟨hoff q hq _ (.head _), List.forall_mem_cons.mpr ⟨hoff q hq _ (.tail _ (.head _)), fun _ h => nomatch h⟩⟩); (case k5 => k_asm); (case k6 => k_is); (case k7 => k_is); (case k8 => ktr_room); (case k9 => exact BindsTo.of_eq rfl); (case c5 => decide); (case kB => exact locs rfl); (case c2 => exact rfl); (case c3 => exact rfl); (case c4 => exact rfl); k_whole; intro g' L' h' FG' F' N' B' X' T' hg' l1; (try dsimp only); (try k_fold))
  (try k_lt l1)
  have hnil : OwnOff ([] : Led) [tub, cells] := fun _ h => nomatch h
  have fX9 : FoldX := ⟨⟩
  have hI9 : HoldIf := ⟨⟩
  refine letA ?_
  intro A1
  (try (with_reducible show wpAny _ _ _ _ _ _))
  (try k_fold)
  k_steps
  refine ⟨?_⟩
  clear hI9
  cases good
  · skip
    (try (with_reducible show wpAny _ _ _ _ _ _))
    (try k_fold)
    k_steps
    · rename _ ∈ [_, _, _] => hvT
      (repeat (rename AllLt _ _ => z9; clear z9))
      have hE := patEnd (by assumption) (by assumption) hg' NL (by assumption)
      refine' hret _ _ _ _ _ _ _ _ _ _ _ _ _ (PatAt.mk (g1 := true) (g2 := false) ?hb ?ht rfl) (ok9.le (by omega)) (ownPair ?ho (by assumption)) hE.2 ?F hE.1
      (case F => k_asm)
      (case ho => (refine ⟨⟨?_, ?_⟩, ?_, ?_⟩ <;> k_ne))
      (case hb => exact BodyAt.of (by assumption) (by walk_at "my sub") rfl)
      (case ht => (simp only [List.mem_cons, List.not_mem_nil, or_false] at hvT; rcases hvT with rfl | rfl | rfl <;> exact TrlAt.of (by assumption) (by walk_at "my sub") rfl))
    · rename _ ∈ [_, _, _, _, _, _, _, _] => hvB
      rename _ ∈ [_, _] => hvT
      have hE := patEnd (by assumption) (by assumption) hg' NL (by assumption)
      refine' hret _ _ _ _ _ _ _ _ _ _ _ _ _ (PatAt.mk (g1 := false) (g2 := true) ?hb ?ht rfl) (ok9.le (by omega)) (ownPair ?ho (by assumption)) hE.2 ?F hE.1
      (case F => k_asm)
      (case ho => (refine ⟨⟨?_, ?_⟩, ?_, ?_⟩ <;> k_ne))
      (case hb => (simp only [List.mem_cons, List.not_mem_nil, or_false] at hvB; rcases hvB with rfl | rfl | rfl | rfl | rfl | rfl | rfl | rfl <;> exact BodyAt.of (by assumption) (by walk_at "my sub") rfl))
      (case ht => (simp only [List.mem_cons, List.not_mem_nil, or_false] at hvT; rcases hvT with rfl | rfl <;> first | exact TrlAt.no | exact TrlAt.of (by assumption) (by walk_at "my sub") rfl))
  · skip
    (try (with_reducible show wpAny _ _ _ _ _ _))
    (try k_fold)
    k_steps
    rename _ ∈ [_, _, _, _, _, _, _] => hvB
    rename _ ∈ [_, _, _, _, _] => hvT
    have hE := patEnd (by assumption) (by assumption) hg' NL (by assumption)
    refine' hret _ _ _ _ _ _ _ _ _ _ _ _ _ (PatAt.mk (g1 := true) (g2 := true) ?hb ?ht rfl) (ok9.le (by omega)) (ownPair ?ho (by assumption)) hE.2 ?F hE.1
    (case F => k_asm)
    (case ho => (refine ⟨⟨?_, ?_⟩, ?_, ?_⟩ <;> k_ne))
    (case hb => (simp only [List.mem_cons, List.not_mem_nil, or_false] at hvB; rcases hvB with rfl | rfl | rfl | rfl | rfl | rfl | rfl <;> exact BodyAt.of (by assumption) (by walk_at "my sub") rfl))
    (case ht => (simp only [List.mem_cons, List.not_mem_nil, or_false] at hvT; rcases hvT with rfl | rfl | rfl | rfl | rfl <;> first | exact TrlAt.no | exact TrlAt.of (by assumption) (by walk_at "my sub") rfl))

theorem titleItem {w : World} {A : Around} {E : Value → Shared → Prop} {s : Shared} {h₀ : Heap} {L : Addr} {m : Str → Option Value} {value slice : PySem.Expr} {g : Nat} {u : Tok} {Q : Value → Shared → Prop} (X : (kmk.heap_1 w.params).In h₀) (F : Fr h₀ L s.heap m) (hg : g < 4)
    (hs : subscripted slice false (.ref 712) (.int (g : Int) u) = operate [.ref 712, .int (g : Int) u] (getItem (.ref 712) (.int (g : Int) u)))
    (h : ∀ t, Q (.str (titleN g) t) s) : wpAny (model PySem.Challenge.rw_qd0068_01.row.prog w) A (subscriptTail value slice (.ref 712) (.int (g : Int) u)) Q E s := by
  revert X; k_fill; intro X
  have X1 : (kmk.heap_1 w.params).In s.heap := X.keeps F.keep
  obtain ⟨o, ho, t0, t1, t2, t3, k, hd, hc⟩ : ∃ o, (kmk.heap_1 w.params).lookup 712 = some o ∧ ∃ t0 t1 t2 t3 k, o.data = .seq #[.str (titleN 0) t0, .str (titleN 1) t1, .str (titleN 2) t2, .str (titleN 3) t3] k ∧ o.cls = .type "tuple" := ⟨_, by k_is, _, _, _, _, _, by rfl, by rfl⟩
  have ht : IsTup s.heap 712 #[.str (titleN 0) t0, .str (titleN 1) t1, .str (titleN 2) t2, .str (titleN 3) t3] := ⟨o, X1 _ _ ho, hc, k, hd⟩
  have hi : ∃ t, (#[Value.str (titleN 0) t0, .str (titleN 1) t1, .str (titleN 2) t2, .str (titleN 3) t3] : Array Value)[g]? = some (.str (titleN g) t) := by
    obtain rfl | rfl | rfl | rfl : g = 0 ∨ g = 1 ∨ g = 2 ∨ g = 3 := by omega
    · exact ⟨_, rfl⟩
    · exact ⟨_, rfl⟩
    · exact ⟨_, rfl⟩
    · exact ⟨_, rfl⟩
  obtain ⟨t, hi⟩ := hi
  refine tail_any ht.typeIs slot_tuple_getitem.lookup (PyProof.Rows.getItem_tuple (j := g) (x := .str (titleN g) t) ht (by omega) (by omega) ?_ hi (h t)) hs
  unfold seqIndex?; simp; omega
theorem stepK (w : World) (wd : Str) (tw : Tok) (g : Nat) (tg : Tok) (hw : wd = Str.ofString "begin" ∨ wd = Str.ofString "push") : Con w 589 [.str wd tw, .str (titleN g) tg] 20 200 [] (fun x nw _ => StepAt nw x (some g)) := by
  intro mean mg mb dp un gd cn cs a0 ccd cl0 outer A₀ base h₀ L m s Q E led B F X N hsub T hk hdp hu hret
  revert X; k_fill; intro X
  (try (with_reducible show wpAny _ _ _ _ _ _))
  (try k_fold)
  k_steps
  refine' hret _ [_, _] _ _ ⟨_, _, _, _, _, _, _, _, _, _, _, rfl, .head _, .tail _ (.head _), hw, _, rfl⟩ ?o ?F ?N
  (case F => k_asm)
  (case N => walk_at "k_news")
  (case o => walk_at "k_ord")
theorem skipK (w : World) (tw : Tok) : Con w 589 [.str (Str.ofString "skip") tw] 20 200 [] (fun x nw _ => StepAt nw x none) := by
  intro mean mg mb dp un gd cn cs a0 ccd cl0 outer A₀ base h₀ L m s Q E led B F X N hsub T hk hdp hu hret
  revert X; k_fill; intro X
  (try (with_reducible show wpAny _ _ _ _ _ _))
  (try k_fold)
  k_steps
  refine' hret _ [_, _] _ _ ⟨_, _, _, _, _, _, _, _, _, _, _, rfl, .head _, .tail _ (.head _), rfl, rfl⟩ ?o ?F ?N
  (case F => k_asm)
  (case N => walk_at "k_news")
  (case o => walk_at "k_ord")
theorem srtOf {v : Value} {a b c d : Tok} (h : v ∈ [Value.str (Str.ofString "end") a, .str (Str.ofString "good") b, .str (Str.ofString "bad") c, .str (Str.ofString "end") d]) : ∃ (r : Srt) (t : Tok), v = .str r.str t := by
  simp only [List.mem_cons, List.not_mem_nil, or_false] at h
  rcases h with rfl | rfl | rfl | rfl
  · exact ⟨.endS, _, rfl⟩
  · exact ⟨.good, _, rfl⟩
  · exact ⟨.bad, _, rfl⟩
  · exact ⟨.endS, _, rfl⟩
theorem wdOf {v : Value} {a b : Tok} (h : v ∈ [Value.str (Str.ofString "begin") a, .str (Str.ofString "push") b]) : ∃ (wd : Str) (t : Tok), v = .str wd t ∧ (wd = Str.ofString "begin" ∨ wd = Str.ofString "push") := by
  simp only [List.mem_cons, List.not_mem_nil, or_false] at h
  rcases h with rfl | rfl
  · exact ⟨_, _, rfl, .inl rfl⟩
  · exact ⟨_, _, rfl, .inr rfl⟩

/-- what was made since (V) lies apart from the addresses `as` and from R -/
def ApartA (as : List Addr) (R V : Led) : Prop := (∀ a ∈ as, ∀ p ∈ V, @Ne Nat a p.1) ∧ ∀ q ∈ R, ∀ p ∈ V, @Ne Nat q.1 p.1
theorem ApartA.nil {as : List Addr} {R : Led} : ApartA as R [] := ⟨fun _ _ _ h => (nomatch h), fun _ _ _ h => (nomatch h)⟩
theorem ownVR {as : List Addr} {R V : Led} {tub cells : Addr} (h : ApartA as R V) (h1 : tub ∈ as) (h2 : cells ∈ as) (ho : OwnOff R [tub, cells]) : OwnOff (V ++ R) [tub, cells] := by
  intro p hp z hz
  rcases List.mem_append.mp hp with hp | hp
  · rcases List.mem_cons.mp hz with rfl | hz
    · exact (h.1 _ h1 p hp).symm
    · rw [List.mem_singleton.mp hz]; exact (h.1 _ h2 p hp).symm
  · exact ho p hp z hz
theorem cupN (w : World) {mean : ExcName → Option Value} {mg mb : Str → Option Value}
  {dp un : Nat} {gd : Option (List Code)} {cn : Str} {cs : Scope} {a : Addr} {ccd : Value} {cl : List (Str × Addr)} {outer : List Env} {A₀ : Around} {base h₀ : Heap} {L : Addr} {m : Str → Option Value} {s : Shared} {Q E : Value → Shared → Prop}
  {tub cells : Addr} {cur n salt many : Int} {nt nc : Nat} {t1 t2 t3 tm : Tok} {vs : List Value} {ns : List Int} {led : Led} {f : Obj → Obj → Led} {lim : Int}
  (B : Below A₀ base outer h₀) (F : Fr h₀ L s.heap m) (X : (kmk.heap_1 w.params).In h₀) (N : News h₀ L s.heap led) (hT : TubIn tub cells (tubO cells cur n salt t1 t2 t3 nt) (listOf vs.toArray nc) led f) (ok : TubOk cur n salt vs ns lim)
  (T : Top vw (looseW vw loose) mean mg mb h₀) (hk : cs.kind = .function) (hd1 : dp + 100 < recursionLimit) (hu1 : un + 500 < cLine) (hm0 : 0 < many) (hm1 : many < 100) (hlim : lim ≤ 1000000)
  (hret : ∀ (r : Nat) (cur' : Int) (t t1' t2' t3' : Tok) (nt' nc' : Nat) (vs' : List Value) (ns' : List Int) (h' : Heap) (tk' : Nat), (0 : Int) ≤ (r : Int) → (r : Int) < many → TubOk cur' (n + 1) salt vs' ns' (lim + 1) → Fr h₀ L h' m →
    News h₀ L h' (f (tubO cells cur' (n + 1) salt t1' t2' t3' nt') (listOf vs'.toArray nc')) → Q (.int (r : Int) t) { s with heap := h', toks := tk' }) :
  wpAny (model PySem.Challenge.rw_qd0068_01.row.prog w) (ktrTop dp un gd cn cs L a ccd cl outer) (call (.ref 724) [.ref tub, .int many tm]) Q E s := by
  refine cupT w B F X N hT ok T hk hd1 hu1 hm0 hm1 hlim ?_
  intro r cur' t t1' t2' t3' nt' nc' vs' ns' h' tk' r0 r1
  obtain ⟨r, rfl⟩ : ∃ q : Nat, r = (q : Int) := ⟨r.toNat, by omega⟩
  exact hret r cur' t t1' t2' t3' nt' nc' vs' ns' h' tk' r0 r1
theorem tubNext {tub cells : Addr} {o oc : Obj} {p : Addr × Obj} {led : Led} {f : Obj → Obj → Led} (h : TubIn tub cells o oc led f) (h1 : @Ne Nat p.1 tub) (h2 : @Ne Nat p.1 cells) : TubIn tub cells o oc (p :: led) (fun o' oc' => p :: f o' oc') := TubIn.next h1 h2 h
theorem off3Mem {I C D : Addr} {l : Led} (o : LCg.Off3 I C D l) : ∀ p ∈ l, @Ne Nat p.1 I ∧ @Ne Nat p.1 C ∧ @Ne Nat p.1 D := fun _ h => LCg.Off3.mem o _ h
theorem off3Of {I C D : Addr} : ∀ {l : Led}, (∀ p ∈ l, @Ne Nat p.1 I ∧ @Ne Nat p.1 C ∧ @Ne Nat p.1 D) → LCg.Off3 I C D l
  | [], _ => trivial
  | _ :: _, h => ⟨h _ (.head _), off3Of fun p hp => h p (.tail _ hp)⟩
theorem apartApp {as : List Addr} {R V nw X : Led} (h : ApartA as R V) (l : ∀ q ∈ X, ∀ p ∈ nw, @Ne Nat q.1 p.1) (ha : ∀ a ∈ as, ∃ o, (a, o) ∈ X) (hr : ∀ p ∈ R, p ∈ X) : ApartA as R (nw ++ V) := by
  refine ⟨fun a h1 p hp => ?_, fun q hq p hp => ?_⟩
  · rcases List.mem_append.mp hp with hp | hp
    · obtain ⟨o, ho⟩ := ha a h1
      exact l _ ho p hp
    · exact h.1 a h1 p hp
  · rcases List.mem_append.mp hp with hp | hp
    · exact l q (hr q hq) p hp
    · exact h.2 q hq p hp
theorem cEndN {h₀ h' : Heap} {L I C D : Addr} {m : Str → Option Value} {s₁ : Shared} {oI oC oD : Obj} {S : Led → Prop} {rest : Value → Led → Prop} {y : Value} {tk : Nat} {nw V R pre : Led}
    (F : Fr h₀ L h' m) (N : News h₀ L h' (nw ++ (I, oI) :: (C, oC) :: (D, oD) :: (pre ++ (V ++ R)))) (l : ∀ q ∈ (I, oI) :: (C, oC) :: (D, oD) :: (pre ++ (V ++ R)), ∀ p ∈ nw, @Ne Nat q.1 p.1) (off : LCg.Off3 I C D (pre ++ (V ++ R)))
    (hS : S (pre ++ ((nw ++ V) ++ R))) (r : rest y (pre ++ ((nw ++ V) ++ R))) : LCg.CompEnd h₀ L m s₁ I oI C oC D oD S rest y { s₁ with heap := h', toks := tk } := by
  have M := @List.mem_append (Addr × Obj)
  refine LCg.CompEnd.intro F N (pre ++ ((nw ++ V) ++ R)) (List.forall_mem_cons.mpr ⟨M.mpr (.inr (.head _)), List.forall_mem_cons.mpr ⟨M.mpr (.inr (.tail _ (.head _))), List.forall_mem_cons.mpr ⟨M.mpr (.inr (.tail _ (.tail _ (.head _)))), fun p hp => ?_⟩⟩⟩) (off3Of fun p hp => ?_) hS r
  · rcases M.mp hp with h | h
    · exact M.mpr (.inr (.tail _ (.tail _ (.tail _ (M.mpr (.inl h))))))
    · rcases M.mp h with h | h
      · rcases M.mp h with h | h
        · exact M.mpr (.inl h)
        · exact M.mpr (.inr (.tail _ (.tail _ (.tail _ (M.mpr (.inr (M.mpr (.inl h))))))))
      · exact M.mpr (.inr (.tail _ (.tail _ (.tail _ (M.mpr (.inr (M.mpr (.inr h))))))))
  · rcases List.mem_append.mp hp with hp | hp
    · exact off3Mem off p (List.mem_append.mpr (.inl hp))
    · rcases List.mem_append.mp hp with hp | hp
      · rcases List.mem_append.mp hp with hp | hp
        · exact ⟨(l _ (.head _) p hp).symm, (l _ (.tail _ (.head _)) p hp).symm, (l _ (.tail _ (.tail _ (.head _))) p hp).symm⟩
        · exact off3Mem off p (List.mem_append.mpr (.inr (List.mem_append.mpr (.inl hp))))
      · exact off3Mem off p (List.mem_append.mpr (.inr (List.mem_append.mpr (.inr hp))))
theorem stepsSnoc {V nw : Led} {zs : List Value} {gs : List Nat} {j g : Nat} {v : Value} (h : All2 (StepAt V) zs ((gs.take j).map some)) (hg : gs[j]? = some g) (hv : StepAt nw v (some g)) : All2 (StepAt (nw ++ V)) (zs ++ [v]) ((gs.take (j + 1)).map some) := by
  rw [List.take_add_one, hg, List.map_append]
  exact (h.imp fun _ _ => StepAt.mono fun p hp => List.mem_append.mpr (.inr hp)).append (.cons (hv.mono fun p hp => List.mem_append.mpr (.inl hp)) .nil)
theorem stNorm {h₀ h : Heap} {L D' l' D4 D3 D tub cells : Addr} {oS oX o4 oG oD o oc : Obj} {nw V R : Led} (N : News h₀ L h ((D', oS) :: (l', oX) :: (nw ++ (D4, o4) :: (D3, oG) :: (D, oD) :: (tub, o) :: (cells, oc) :: (V ++ R))))
    (l : AllLt D' (nw ++ (D4, o4) :: (D3, oG) :: (D, oD) :: (tub, o) :: (cells, oc) :: (V ++ R))) (l9 : ∀ q ∈ (D4, o4) :: (D3, oG) :: (D, oD) :: (tub, o) :: (cells, oc) :: (V ++ R), ∀ p ∈ nw, @Ne Nat q.1 p.1)
    (hV : ApartA [D3, D, tub, cells] R V) (d1 : @Ne Nat D3 D) (d2 : @Ne Nat D3 tub) (d3 : @Ne Nat D3 cells) (d4 : ∀ p ∈ R, @Ne Nat p.1 D3) :
    ∃ V1 : Led, News h₀ L h ((tub, o) :: (cells, oc) :: (D, oD) :: (V1 ++ R)) ∧ ApartA [D, tub, cells] R V1 ∧ (D', oS) ∈ V1 ∧ (D3, oG) ∈ V1 ∧ (∀ p ∈ nw, p ∈ V1) ∧ ∀ p ∈ V, p ∈ V1 := by
  have M := @List.mem_append (Addr × Obj)
  have hl := ktn_ltOf l
  have lt : ∀ q ∈ (D4, o4) :: (D3, oG) :: (D, oD) :: (tub, o) :: (cells, oc) :: (V ++ R), @Ne Nat q.1 D' := fun q hq => Nat.ne_of_lt (hl q (M.mpr (.inr hq)))
  refine ⟨(D', oS) :: (D3, oG) :: (nw ++ V), newsSub N ?_, ⟨?_, ?_⟩, .head _, .tail _ (.head _), fun p hp => .tail _ (.tail _ (M.mpr (.inl hp))), fun p hp => .tail _ (.tail _ (M.mpr (.inr hp)))⟩
  · refine List.forall_mem_cons.mpr ⟨.tail _ (.tail _ (M.mpr (.inr (.tail _ (.tail _ (.tail _ (.head _))))))), List.forall_mem_cons.mpr ⟨.tail _ (.tail _ (M.mpr (.inr (.tail _ (.tail _ (.tail _ (.tail _ (.head _)))))))), List.forall_mem_cons.mpr ⟨.tail _ (.tail _ (M.mpr (.inr (.tail _ (.tail _ (.head _)))))), List.forall_mem_cons.mpr ⟨.head _, List.forall_mem_cons.mpr ⟨.tail _ (.tail _ (M.mpr (.inr (.tail _ (.head _))))), fun p hp => ?_⟩⟩⟩⟩⟩
    rcases M.mp hp with h | h
    · rcases M.mp h with h | h
      · exact .tail _ (.tail _ (M.mpr (.inl h)))
      · exact .tail _ (.tail _ (M.mpr (.inr (.tail _ (.tail _ (.tail _ (.tail _ (.tail _ (M.mpr (.inl h))))))))))
    · exact .tail _ (.tail _ (M.mpr (.inr (.tail _ (.tail _ (.tail _ (.tail _ (.tail _ (M.mpr (.inr h))))))))))
  · intro a ha
    have ha : a = D ∨ a = tub ∨ a = cells := by simpa using ha
    have m : ∃ o2, (a, o2) ∈ (D4, o4) :: (D3, oG) :: (D, oD) :: (tub, o) :: (cells, oc) :: (V ++ R) := by
      rcases ha with rfl | rfl | rfl
      · exact ⟨_, .tail _ (.tail _ (.head _))⟩
      · exact ⟨_, .tail _ (.tail _ (.tail _ (.head _)))⟩
      · exact ⟨_, .tail _ (.tail _ (.tail _ (.tail _ (.head _))))⟩
    obtain ⟨o2, m⟩ := m
    refine List.forall_mem_cons.mpr ⟨lt _ m, List.forall_mem_cons.mpr ⟨?_, fun p hp => ?_⟩⟩
    · rcases ha with rfl | rfl | rfl
      · exact d1.symm
      · exact d2.symm
      · exact d3.symm
    · rcases M.mp hp with hp | hp
      · exact l9 _ m p hp
      · exact hV.1 a (by rcases ha with rfl | rfl | rfl <;> simp) p hp
  · intro q hq
    have m : q ∈ (D4, o4) :: (D3, oG) :: (D, oD) :: (tub, o) :: (cells, oc) :: (V ++ R) := .tail _ (.tail _ (.tail _ (.tail _ (.tail _ (M.mpr (.inr hq))))))
    refine List.forall_mem_cons.mpr ⟨lt _ m, List.forall_mem_cons.mpr ⟨d4 q hq, fun p hp => ?_⟩⟩
    rcases M.mp hp with hp | hp
    · exact l9 _ m p hp
    · exact hV.2 q hq p hp
theorem d2n {out : List Value} {a b : Nat} (h : IntsAre out (natI (d2 a b))) : out.length ≤ 2 := by
  rw [h.length]
  unfold d2 natI
  split
  · exact (by simp)
  · split <;> simp
theorem d2_lt {a b many : Nat} (ha : a < many) (hb : b < many) : ∀ p ∈ d2 a b, p < many := by
  intro p hp
  unfold d2 at hp
  split at hp
  · rw [List.mem_singleton.mp hp]; exact ha
  · split at hp <;> (simp only [List.mem_cons, List.not_mem_nil, or_false] at hp; omega)
theorem apartPat {D tub cells : Addr} {o : Obj} {R V nw : Led} (h : ApartA [D, tub, cells] R V) (l : ∀ q ∈ (D, o) :: (V ++ R), ∀ p ∈ nw, @Ne Nat q.1 p.1) (off : OwnOff nw [tub, cells]) : ApartA [D, tub, cells] R (nw ++ V) := by
  refine ⟨fun a ha p hp => ?_, fun q hq p hp => ?_⟩
  · rcases List.mem_append.mp hp with hp | hp
    · rcases List.mem_cons.mp ha with rfl | ha
      · exact l _ (.head _) p hp
      · exact (off p hp a ha).symm
    · exact h.1 a ha p hp
  · rcases List.mem_append.mp hp with hp | hp
    · exact l q (.tail _ (List.mem_append.mpr (.inr hq))) p hp
    · exact h.2 q hq p hp
theorem pvOf {led : Led} {v : Value} {r : Srt} (h : PatAt led v (r.str == Str.ofString "good")) (hne : (r.str == Str.ofString "end") = false) : PvAt led v r := by
  rw [srt_good] at h
  rw [srt_end] at hne
  cases r with
  | endS => cases hne
  | good => exact h
  | bad => exact h
theorem newsPat {h₀ h : Heap} {L : Addr} {p1 p2 p3 : Addr × Obj} {nw V R : Led} (N : News h₀ L h (p1 :: p2 :: (nw ++ p3 :: (V ++ R)))) : News h₀ L h (p1 :: p2 :: p3 :: ((nw ++ V) ++ R)) := by
  have M := @List.mem_append (Addr × Obj)
  refine newsSub N (List.forall_mem_cons.mpr ⟨.head _, List.forall_mem_cons.mpr ⟨.tail _ (.head _), List.forall_mem_cons.mpr ⟨.tail _ (.tail _ (M.mpr (.inr (.head _)))), fun p hp => .tail _ (.tail _ ?_)⟩⟩⟩)
  rcases M.mp hp with h | h
  · rcases M.mp h with h | h
    · exact M.mpr (.inl h)
    · exact M.mpr (.inr (.tail _ (M.mpr (.inl h))))
  · exact M.mpr (.inr (.tail _ (M.mpr (.inr h))))
theorem turnEnd {h₀ h : Heap} {L T D8 D9 S9 l' D tub cells I : Addr} {oT o8 o9 oS ol o oc oD oI : Obj} {V2 W base R : Led} (hRe : R = (I, oI) :: (W ++ base)) (N : News h₀ L h ((T, oT) :: (D8, o8) :: (D9, o9) :: (S9, oS) :: (l', ol) :: (tub, o) :: (cells, oc) :: (D, oD) :: (V2 ++ R)))
    (lT : @LT.lt Nat _ tub T ∧ @LT.lt Nat _ cells T ∧ @LT.lt Nat _ D T ∧ AllLt T (V2 ++ R)) (l8 : @LT.lt Nat _ tub D8 ∧ @LT.lt Nat _ cells D8 ∧ @LT.lt Nat _ D D8 ∧ AllLt D8 (V2 ++ R)) (hV2 : ApartA [D, tub, cells] R V2) (hW : ApartA [D, tub, cells] base W)
    (hDI : @Ne Nat D I) (htI : @Ne Nat tub I) (hcI : @Ne Nat cells I) (hrI : ∀ p ∈ W ++ base, @Ne Nat p.1 I) :
    News h₀ L h ((I, oI) :: (D, oD) :: (tub, o) :: (cells, oc) :: (((T, oT) :: (D8, o8) :: (V2 ++ W)) ++ base)) ∧ (∀ p ∈ (D, oD) :: (tub, o) :: (cells, oc) :: (((T, oT) :: (D8, o8) :: (V2 ++ W)) ++ base), @Ne Nat p.1 I) ∧ ApartA [D, tub, cells] base ((T, oT) :: (D8, o8) :: (V2 ++ W)) := by
  subst hRe
  have M := @List.mem_append (Addr × Obj)
  have up : ∀ p ∈ V2 ++ ((I, oI) :: (W ++ base)), p ∈ (T, oT) :: (D8, o8) :: (D9, o9) :: (S9, oS) :: (l', ol) :: (tub, o) :: (cells, oc) :: (D, oD) :: (V2 ++ ((I, oI) :: (W ++ base))) := fun p hp => .tail _ (.tail _ (.tail _ (.tail _ (.tail _ (.tail _ (.tail _ (.tail _ hp)))))))
  have mI : (I, oI) ∈ V2 ++ ((I, oI) :: (W ++ base)) := M.mpr (.inr (.head _))
  have mWb : ∀ p ∈ W ++ base, p ∈ V2 ++ ((I, oI) :: (W ++ base)) := fun p hp => M.mpr (.inr (.tail _ hp))
  have hT := ktn_ltOf lT.2.2.2
  have h8 := ktn_ltOf l8.2.2.2
  refine ⟨newsSub N ?_, ?_, ?_, ?_⟩
  · refine List.forall_mem_cons.mpr ⟨up _ mI, List.forall_mem_cons.mpr ⟨.tail _ (.tail _ (.tail _ (.tail _ (.tail _ (.tail _ (.tail _ (.head _))))))), List.forall_mem_cons.mpr ⟨.tail _ (.tail _ (.tail _ (.tail _ (.tail _ (.head _))))), List.forall_mem_cons.mpr ⟨.tail _ (.tail _ (.tail _ (.tail _ (.tail _ (.tail _ (.head _)))))), List.forall_mem_cons.mpr ⟨.head _, List.forall_mem_cons.mpr ⟨.tail _ (.head _), fun p hp => up p ?_⟩⟩⟩⟩⟩⟩
    rcases M.mp hp with h | h
    · rcases M.mp h with h | h
      · exact M.mpr (.inl h)
      · exact mWb p (M.mpr (.inl h))
    · exact mWb p (M.mpr (.inr h))
  · refine List.forall_mem_cons.mpr ⟨hDI, List.forall_mem_cons.mpr ⟨htI, List.forall_mem_cons.mpr ⟨hcI, List.forall_mem_cons.mpr ⟨(Nat.ne_of_lt (hT _ mI)).symm, List.forall_mem_cons.mpr ⟨(Nat.ne_of_lt (h8 _ mI)).symm, fun p hp => ?_⟩⟩⟩⟩⟩
    rcases M.mp hp with h | h
    · rcases M.mp h with h | h
      · exact (hV2.2 _ (.head _) p h).symm
      · exact hrI p (M.mpr (.inl h))
    · exact hrI p (M.mpr (.inr h))
  · intro a ha
    have ha' : a = D ∨ a = tub ∨ a = cells := by simpa using ha
    refine List.forall_mem_cons.mpr ⟨?_, List.forall_mem_cons.mpr ⟨?_, fun p hp => ?_⟩⟩
    · rcases ha' with rfl | rfl | rfl
      · exact Nat.ne_of_lt lT.2.2.1
      · exact Nat.ne_of_lt lT.1
      · exact Nat.ne_of_lt lT.2.1
    · rcases ha' with rfl | rfl | rfl
      · exact Nat.ne_of_lt l8.2.2.1
      · exact Nat.ne_of_lt l8.1
      · exact Nat.ne_of_lt l8.2.1
    · rcases M.mp hp with h | h
      · exact hV2.1 a ha p h
      · exact hW.1 a ha p h
  · intro q hq
    refine List.forall_mem_cons.mpr ⟨Nat.ne_of_lt (hT _ (mWb q (M.mpr (.inr hq)))), List.forall_mem_cons.mpr ⟨Nat.ne_of_lt (h8 _ (mWb q (M.mpr (.inr hq)))), fun p hp => ?_⟩⟩
    rcases M.mp hp with h | h
    · exact hV2.2 q (.tail _ (M.mpr (.inr hq))) p h
    · exact hW.2 q hq p h
structure RowsSt (W : Led) (many : Nat) (vs : List Value) (rs : List Row) : Prop where
  rel : All2 (RowX W) vs rs
  ok : ∀ r ∈ rs, RowOk many r
def RJ (D tub cells : Addr) (salt : Int) (base : Led) (many : Nat) (lim : Int) (i : Nat) (nx : Led) : Prop := ∃ vs k W rs cur n t1 t2 t3 nt nc vs' ns', nx = (D, listOf (List.toArray vs) k) :: (tub, tubO cells cur n salt t1 t2 t3 nt) :: (cells, listOf (List.toArray vs') nc) :: (W ++ base) ∧
  ApartA [D, tub, cells] base W ∧ RowsSt W many vs rs ∧ rs.length = i ∧ TubOk cur n salt vs' ns' (lim + 100 * i)
theorem words_rules_1 : True := by
  k_with "TubIn" => first
    | (refine' TubIn.here ?th1X ?th1Y ?th1Z; (case th1X => assumption); (case th1Y => assumption); (case th1Z => first | assumption | (refine' ownVR ?tv1X ?tv1A ?tv1B ?tv1Y; (case tv1X => assumption); (case tv1A => exact .tail _ (.head _)); (case tv1B => exact .tail _ (.tail _ (.head _))); (case tv1Y => assumption))))
    | (refine' TubIn.next ?ti1X ?ti1Y ?ti1Z; (case ti1Z => walk_at "TubIn2"); (case ti1X => first | assumption | k_ne); (case ti1Y => first | assumption | k_ne))
  k_with "TubIn2" => first
    | (refine' TubIn.here ?th2X ?th2Y ?th2Z; (case th2X => assumption); (case th2Y => assumption); (case th2Z => first | assumption | (refine' ownVR ?tv2X ?tv2A ?tv2B ?tv2Y; (case tv2X => assumption); (case tv2A => exact .tail _ (.head _)); (case tv2B => exact .tail _ (.tail _ (.head _))); (case tv2Y => assumption))))
    | (refine' TubIn.next ?ti2X ?ti2Y ?ti2Z; (case ti2Z => walk_at "TubIn3"); (case ti2X => first | assumption | k_ne); (case ti2Y => first | assumption | k_ne))
  k_with "TubIn3" => first
    | (refine' TubIn.here ?th3X ?th3Y ?th3Z; (case th3X => assumption); (case th3Y => assumption); (case th3Z => first | assumption | (refine' ownVR ?tv3X ?tv3A ?tv3B ?tv3Y; (case tv3X => assumption); (case tv3A => exact .tail _ (.head _)); (case tv3B => exact .tail _ (.tail _ (.head _))); (case tv3Y => assumption))))
    | (refine' TubIn.next ?ti3X ?ti3Y ?ti3Z; (case ti3Z => walk_at "TubIn4"); (case ti3X => first | assumption | k_ne); (case ti3Y => first | assumption | k_ne))
  k_with "TubIn4" => first
    | (refine' TubIn.here ?th4X ?th4Y ?th4Z; (case th4X => assumption); (case th4Y => assumption); (case th4Z => first | assumption | (refine' ownVR ?tv4X ?tv4A ?tv4B ?tv4Y; (case tv4X => assumption); (case tv4A => exact .tail _ (.head _)); (case tv4B => exact .tail _ (.tail _ (.head _))); (case tv4Y => assumption))))
    | (refine' TubIn.next ?ti4X ?ti4Y ?ti4Z; (case ti4Z => walk_at "TubIn5"); (case ti4X => first | assumption | k_ne); (case ti4Y => first | assumption | k_ne))
  k_with "TubIn5" => first
    | (refine' TubIn.here ?th5X ?th5Y ?th5Z; (case th5X => assumption); (case th5Y => assumption); (case th5Z => first | assumption | (refine' ownVR ?tv5X ?tv5A ?tv5B ?tv5Y; (case tv5X => assumption); (case tv5A => exact .tail _ (.head _)); (case tv5B => exact .tail _ (.tail _ (.head _))); (case tv5Y => assumption))))
    | (refine' TubIn.next ?ti5X ?ti5Y ?ti5Z; (case ti5Z => walk_at "TubIn6"); (case ti5X => first | assumption | k_ne); (case ti5Y => first | assumption | k_ne))
  k_with "TubIn6" => first
    | (refine' TubIn.here ?th6X ?th6Y ?th6Z; (case th6X => assumption); (case th6Y => assumption); (case th6Z => first | assumption | (refine' ownVR ?tv6X ?tv6A ?tv6B ?tv6Y; (case tv6X => assumption); (case tv6A => exact .tail _ (.head _)); (case tv6B => exact .tail _ (.tail _ (.head _))); (case tv6Y => assumption))))
    | (refine' TubIn.next ?ti6X ?ti6Y ?ti6Z; (case ti6Z => walk_at "TubIn7"); (case ti6X => first | assumption | k_ne); (case ti6Y => first | assumption | k_ne))
  k_with "TubIn7" => first
    | (refine' TubIn.here ?th7X ?th7Y ?th7Z; (case th7X => assumption); (case th7Y => assumption); (case th7Z => first | assumption | (refine' ownVR ?tv7X ?tv7A ?tv7B ?tv7Y; (case tv7X => assumption); (case tv7A => exact .tail _ (.head _)); (case tv7B => exact .tail _ (.tail _ (.head _))); (case tv7Y => assumption))))
    | (refine' TubIn.next ?ti7X ?ti7Y ?ti7Z; (case ti7Z => walk_at "TubIn8"); (case ti7X => first | assumption | k_ne); (case ti7Y => first | assumption | k_ne))
  k_with "TubIn8" => first
    | (refine' TubIn.here ?th8X ?th8Y ?th8Z; (case th8X => assumption); (case th8Y => assumption); (case th8Z => first | assumption | (refine' ownVR ?tv8X ?tv8A ?tv8B ?tv8Y; (case tv8X => assumption); (case tv8A => exact .tail _ (.head _)); (case tv8B => exact .tail _ (.tail _ (.head _))); (case tv8Y => assumption))))
  k_with "subscriptTail" => (k_here; (with_reducible show wpAny _ _ (subscriptTail _ _ (Value.ref _) (Value.int _ _)) _ _ _); k_dflt (refine' itemTup ?itN ?itM ?itA ?itB ?itC ?_ ?itS; (case itN => k_asm); (case itM => exact List.Mem.head _); (case itA => assumption); (case itB => (simp only [List.length_cons, List.length_nil]; omega)); (case itC => (simp only [List.length_cons, List.length_nil]; omega)); (case itS => with_unfolding_all rfl)); intro v9 hv9; (rename News _ _ _ _ => N8); (have N9 := News.drop1 N8); clear N8; (try ((with_reducible have q9 := srtOf hv9); obtain ⟨srt9, ts9, e9⟩ := q9; subst e9)); (try ((with_reducible have q9 := wdOf hv9); obtain ⟨wd9, tw9, e9, hw9⟩ := q9; subst e9)))
  k_with "subscriptTail" => (k_here; (with_reducible show wpAny _ _ (subscriptTail _ _ (Value.ref 712) (Value.int _ _)) _ _ _); k_dflt (refine' titleItem ?tiX ?tiF ?tiG ?tiS ?_; (case tiX => k_asm); (case tiF => k_asm); (case tiG => omega); (case tiS => with_unfolding_all rfl)); intro t9)
  k_with "call ref" => (k_here; (with_reducible show wpAny _ _ (call (Value.ref 724) [Value.ref _, Value.int _ _] []) _ _ _); k_dflt (refine' cupN _ ?cuB ?cuF ?cuX ?cuN ?cuTI ?cuok ?cuT ?cukK ?cud ?cuu ?cum0 ?cum1 ?culim ?_; (case cuN => k_asm); (case cuTI => walk_at "TubIn"); (case cuok => assumption); (case cuB => k_asm); (case cuF => k_asm); (case cuX => k_asm); (case cuT => k_asm); (case cukK => first | exact rfl | assumption); (case cud => ktr_room); (case cuu => ktr_units); (case cum0 => first | omega | decide); (case cum1 => first | omega | decide); (case culim => omega)); intro r9 cur9 t9 a9 b9 c9 nt9 nc9 vs9 ns9 h9 tk9 lo9 hi9 ok9 F9 N9; (try dsimp only at N9); (try dsimp only); (try k_fold))
  k_with "con" => ((with_reducible refine' Con.mono (stepK _ _ _ _ _ ?skH) nilSub); (case skH => assumption))
  k_with "con" => with_reducible exact Con.mono (skipK _ _) nilSub
  k_with "binaryOp Add ref ref" => (k_here; (with_reducible show wpAny _ _ (binaryOp Operator.Add (Value.ref _) (Value.ref _)) _ _ _); k_dflt (refine' kmk_add_lit ?adF ?adN ?adA ?adB rfl ?_ ?adZ; (case adF => k_asm); (case adN => k_asm); (case adA => (refine' isListN ?adn ?adm; (case adn => k_asm); (case adm => k_mem))); (case adB => (refine' isListN ?aen ?aem; (case aen => k_asm); (case aem => k_mem))); (case adZ => (rw [sizeLine_eq]; (simp only [List.size_toArray, List.length_cons, List.length_nil, List.length_append] at *); omega))); intro D' h' F' N' l1; (try dsimp only [List.cons_append, List.nil_append] at N'); (try k_lt l1))
  k_with "exec Assign" => (k_here; (rename HoldMark => hM9); (with_reducible show wpAny _ _ (exec (PySem.Stmt.Assign _ (PySem.Expr.IfExp ..) ..) _) _ _ _); refine held ?_)
  k_with "call ref" => (k_here; (with_reducible show wpAny _ _ (call (Value.ref 731) [Value.ref _, Value.bool _] []) _ _ _); k_dflt (refine' patC _ ?paB ?paF ?paX ?paN ?pa1 ?pa2 ?paO ?paok ?paT ?pakK ?pad ?pau ?palim ?_; (case paN => k_asm); (case pa1 => assumption); (case pa2 => assumption); (case paO => assumption); (case paok => assumption); (case paB => k_asm); (case paF => k_asm); (case paX => k_asm); (case paT => k_asm); (case pakK => first | exact rfl | assumption); (case pad => ktr_room); (case pau => ktr_units); (case palim => omega)); intro v9 nw9 cur9 n9 a9 b9 c9 nt9 nc9 vs9 ns9 h9 tk9 o9 ok9 off9 l9 F9 N9; (try dsimp only at N9); (try dsimp only); (try k_fold))
  k_with "call type:set" => (k_here; (with_reducible show wpAny _ _ (call (Value.type _) [Value.ref _] []) _ _ _); k_dflt (refine' setOf2 ?seH ?seF ?seN ?seM ?seA ?seB ?_; (case seF => k_asm); (case seN => k_asm); (case seM => k_mem); (case seH => rfl); (case seA => omega); (case seB => omega)); intro S9 so9 h9 tk9 set9 F9 N9 l1; (try k_lt l1))
  k_with "call builtin:sorted" => (k_here; (with_reducible show wpAny _ _ (call (Value.builtin _) [Value.ref _] []) _ _ _); k_dflt (refine' sorted2 ?soH ?soF ?soN ?soM ?soS ?_; (case soF => k_asm); (case soN => k_asm); (case soM => k_mem); (case soS => assumption); (case soH => rfl)); intro D9 out9 c9 h9 tk9 io9 F9 N9 l1; (have ol9 := d2n io9); (try k_lt l1))
  k_with "call type:tuple" => (k_here; (with_reducible show wpAny _ _ (call (Value.type _) [Value.ref _] []) _ _ _); k_dflt (refine' kde_tupleOf ?tuF ?tuN ?tuL ?tuZ rfl ?_; (case tuF => k_asm); (case tuN => k_asm); (case tuL => (refine' isListN ?tun ?tum; (case tun => k_asm); (case tum => k_mem))); (case tuZ => (rw [List.size_toArray]; omega))); intro D8 h9 F9 N9 l1; (try k_lt l1))
  k_with "call builtin:list.append" => (k_here; (with_reducible show wpAny _ _ (call (Value.builtin _) [Value.ref _, _]) _ _ _); (rename HoldMark => hM9); k_dflt (refine' appendL ?apF ?apN ?apU ?apZ ?_; (case apF => k_asm); (case apN => k_asm); (case apU => k_upd); (case apZ => omega)); intro h' F' N'; (try k_sweep))
  trivial
theorem rulesC (w : World) {mean : ExcName → Option Value} {mg mb : Str → Option Value}
  {dp un : Nat} {gd : Option (List Code)} {cn : Str} {cs : Scope} {a0 : Addr} {ccd : Value} {cl0 : List (Str × Addr)} {outer : List Env} {A₀ : Around} {base0 h₀ : Heap} {L : Addr} {m : Str → Option Value} {s : Shared} {Q E : Value → Shared → Prop}
  {tub cells : Addr} {cur n salt : Int} {nt nc many : Nat} {t1 t2 t3 tm : Tok} {vs : List Value} {ns : List Int} {led : Led} {lim : Int}
  (B : Below A₀ base0 outer h₀) (F : Fr h₀ L s.heap m) (X : (kmk.heap_1 w.params).In h₀) (N : News h₀ L s.heap ((tub, tubO cells cur n salt t1 t2 t3 nt) :: (cells, listOf vs.toArray nc) :: led))
  (htc : @Ne Nat tub cells) (hct : @Ne Nat cells tub) (hoff : OwnOff led [tub, cells]) (ok : TubOk cur n salt vs ns lim) (hm2 : 2 ≤ many) (hm4 : many ≤ 4)
  (T : Top vw (looseW vw loose) mean mg mb h₀) (hk : cs.kind = .function) (hd1 : dp + 500 < recursionLimit) (hu1 : un + 5000 < cLine) (hlim : lim ≤ 100000)
  (hret : ∀ (D : Addr) (nw : Led) (rs : List Row) (cur' n' : Int) (t1' t2' t3' : Tok) (nt' nc' : Nat) (vs' : List Value) (ns' : List Int) (h' : Heap) (tk' : Nat), RowsX nw D rs → (∀ r ∈ rs, RowOk many r) → rs.length ≤ 6 → TubOk cur' n' salt vs' ns' (lim + 1000) → OwnOff nw [tub, cells] → (∀ q ∈ led, ∀ p ∈ nw, @Ne Nat q.1 p.1) → Fr h₀ L h' m →
    News h₀ L h' ((tub, tubO cells cur' n' salt t1' t2' t3' nt') :: (cells, listOf vs'.toArray nc') :: (nw ++ led)) → Q (.ref D) { s with heap := h', toks := tk' }) :
  wpAny (model PySem.Challenge.rw_qd0068_01.row.prog w) (ktrTop dp un gd cn cs L a0 ccd cl0 outer) (call (.ref 736) [.ref tub, .int (many : Int) tm]) Q E s := by
  revert X; k_fill; intro X
  have fX9 : FoldX := ⟨⟩
  have hM9 : HoldMark := ⟨⟩
  refine wpAny_call ?_
  k_dflt walk_at "k_enter"
  refine letA ?_
  intro A1
  rename_i oM oT dM dT
  replace dM : oM.data = .cell (some (.int (many : Int) tm)) := dM.trans (by rfl)
  replace dT : oT.data = .cell (some (.ref tub)) := dT.trans (by rfl)
  obtain ⟨base, hbase⟩ : ∃ b : Led, b = (L' + 1 + 1, oM) :: (L' + 1, oT) :: led := ⟨_, rfl⟩
  have mM : (L' + 1 + 1, oM) ∈ base := by rw [hbase]; exact .head _
  have mT : (L' + 1, oT) ∈ base := by rw [hbase]; exact .tail _ (.head _)
  have hbl : ∀ p ∈ led, p ∈ base := fun p hp => by rw [hbase]; exact .tail _ (.tail _ hp)
  have hob : OwnOff base [tub, cells] := by
    rw [hbase]
    intro p hp z hz
    have hz : z = tub ∨ z = cells := by simpa using hz
    have h1 := l1.1
    have h2 := l1.2.1
    rcases List.mem_cons.mp hp with rfl | hp
    · rcases hz with rfl | rfl <;> (show @Ne Nat _ _) <;> omega
    · rcases List.mem_cons.mp hp with rfl | hp
      · rcases hz with rfl | rfl <;> (show @Ne Nat _ _) <;> omega
      · exact hoff p hp z (by simpa using hz)
  have N1 : News g' L' h' ((tub, tubO cells cur n salt t1 t2 t3 nt) :: (cells, listOf vs.toArray nc) :: base) := by
    rw [hbase]
    exact newsSub N' (List.forall_mem_cons.mpr ⟨.tail _ (.tail _ (.head _)), List.forall_mem_cons.mpr ⟨.tail _ (.tail _ (.tail _ (.head _))), List.forall_mem_cons.mpr ⟨.head _, List.forall_mem_cons.mpr ⟨.tail _ (.head _), fun p hp => .tail _ (.tail _ (.tail _ (.tail _ hp)))⟩⟩⟩⟩)
  clear N'
  (try (with_reducible show wpAny _ _ _ _ _ _))
  (try k_fold)
  k_steps
  refine ⟨?_⟩
  refine For_invX g' ?_ (fun _ => rfl) (by passes_own)
  (try (with_reducible show wpAny _ _ _ _ _ _))
  (try k_fold)
  k_steps
  refine ⟨?_⟩
  rename_i D hX lD hD1 FD1 ND1 qk1 ek1 FD2 ND2 hR tkR tu uu vu hr FR NR hkR
  clear FD1 ND1 FD2 ND2 hkR
  have hDt : @Ne Nat D tub := (Nat.ne_of_lt lD.1).symm
  have hDc : @Ne Nat D cells := (Nat.ne_of_lt lD.2.1).symm
  have hDb : ∀ p ∈ base, @Ne Nat p.1 D := fun p hp => Nat.ne_of_lt (ktn_ltOf lD.2.2 p hp)
  refine iterR (n := 1 + r9) (fun i m nx => Keeps [Str.ofString "turn", Str.ofString "sort", Str.ofString "one", Str.ofString "two", Str.ofString "goals", Str.ofString "steps", Str.ofString "pattern"] _ m ∧ RJ D tub cells salt base many (lim + 1) i nx)
    (by rfl) (by rfl) (by rfl) FR NR hr ?sm ?rn ⟨.refl, [], 0, [], [], cur9, n + 1, a9, b9, c9, nt9, nc9, vs9, ns9, rfl, .nil, ⟨.nil, fun _ h => (nomatch h)⟩, rfl, ok9.le (by omega)⟩ ?turn ?done
  (case sm => exact small_one (by omega) (by omega) (by omega) (by omega))
  (case rn => (rw [rangeSize_one]; split <;> omega))
  (case turn =>
    clear hret FR NR hr
    intro i tv m₁ nx h tk I oI hi ho hJ9 F1 N1
    (with_reducible show wpAny _ _ _ _ _ _)
    k_fold
    refine restL ?_
    intro l9x el9x
    first | (refine' ex12 (hJ9) ?_; intro _ _ _ _ _ _ _ _ _ _ _ _ h9e; walk_at "sp 4") | (refine' ex8 (hJ9) ?_; intro _ _ _ _ _ _ _ _ h9e; walk_at "sp 8") | (refine' ex6 (hJ9) ?_; intro _ _ _ _ _ _ h9e; walk_at "sp 10") | (refine' ex4 (hJ9) ?_; intro _ _ _ _ h9e; walk_at "sp 12") | (refine' ex3 (hJ9) ?_; intro _ _ _ h9e; walk_at "sp 13") | (refine' ex2 (hJ9) ?_; intro _ _ h9e; walk_at "sp 14") | (refine' ex1 (hJ9) ?_; intro _ h9e; walk_at "sp 15") | (refine' and6 (hJ9) ?_; intro _ _ _ _ _ h9e; walk_at "sp 11") | (refine' and4 (hJ9) ?_; intro _ _ _ h9e; walk_at "sp 13") | (refine' and3 (hJ9) ?_; intro _ _ h9e; walk_at "sp 14") | (refine' and2 (hJ9) ?_; intro _ h9e; walk_at "sp 15") | (obtain ⟨_, _, _, _, _, _, _, _, _, _, _, _, _, _, _, _⟩ := hJ9)
    rename_i hK vs2 k2 W rs cur2 n2 a2 b2 c2 nt2 nc2 vs3 ns3 e9x1310 r9x1311
    try (clear hJ9)
    subst e9x1310
    first | (refine' ex3 (r9x1311) ?_; intro _ _ _ _ ) | (refine' ex2 (r9x1311) ?_; intro _ _ h9e; walk_at "sp 2") | (refine' ex1 (r9x1311) ?_; intro _ h9e; walk_at "sp 3") | (refine' and4 (r9x1311) ?_; intro _ _ _ _ ) | (refine' and3 (r9x1311) ?_; intro _ _ h9e; walk_at "sp 2") | (refine' and2 (r9x1311) ?_; intro _ h9e; walk_at "sp 3") | (obtain ⟨_, _, _, _⟩ := r9x1311)
    rename_i hW hS hlen ok2
    try (clear r9x1311)
    obtain ⟨u, rfl⟩ := canon0 hK
    subst el9x
    clear ok9 ok hK
    have hDI : @Ne Nat D I := ho _ (.head _)
    have htI : @Ne Nat tub I := ho _ (.tail _ (.head _))
    have hcI : @Ne Nat cells I := ho _ (.tail _ (.tail _ (.head _)))
    have hrI : ∀ p ∈ W ++ base, @Ne Nat p.1 I := fun p hp => ho p (.tail _ (.tail _ (.tail _ hp)))
    obtain ⟨R, hRe⟩ : ∃ R : Led, R = (I, oI) :: (W ++ base) := ⟨_, rfl⟩
    have hRb : ∀ p ∈ W ++ base, p ∈ R := fun p hp => by rw [hRe]; exact .tail _ hp
    have mM' : (L' + 1 + 1, oM) ∈ R := hRb _ (List.mem_append.mpr (.inr mM))
    have mT' : (L' + 1, oT) ∈ R := hRb _ (List.mem_append.mpr (.inr mT))
    have hoR : OwnOff R [tub, cells] := by
      rw [hRe]
      intro p hp z hz
      rcases List.mem_cons.mp hp with rfl | hp
      · have hz : z = tub ∨ z = cells := by simpa using hz
        rcases hz with rfl | rfl
        · exact htI.symm
        · exact hcI.symm
      · exact ownVR hW (.tail _ (.head _)) (.tail _ (.tail _ (.head _))) hob p hp z hz
    have N2 : News g' L' h ((D, listOf (List.toArray vs2) k2) :: (tub, tubO cells cur2 n2 salt a2 b2 c2 nt2) :: (cells, listOf (List.toArray vs3) nc2) :: R) := by
      rw [hRe]
      exact newsSub N1 (List.forall_mem_cons.mpr ⟨.tail _ (.head _), List.forall_mem_cons.mpr ⟨.tail _ (.tail _ (.head _)), List.forall_mem_cons.mpr ⟨.tail _ (.tail _ (.tail _ (.head _))), List.forall_mem_cons.mpr ⟨.head _, fun p hp => .tail _ (.tail _ (.tail _ (.tail _ hp)))⟩⟩⟩⟩)
    clear N1
    have hi6 : i ≤ 6 := by omega
    (try (with_reducible show wpAny _ _ _ _ _ _))
    (try k_fold)
    k_steps
    refine ⟨?_⟩
    rename_i hR tkR tu uu vu hr FR NR hkR
    have NR1 := News.drop1 NR
    clear NR hkR
    refine LCg.CompSrc.range (n := r9) (by rfl) FR NR1 hr (small_one (by omega) (by omega) (by omega) (by omega)) (by rw [rangeSize_one]; split <;> omega) (by rw [sizeLine_eq]; omega) ?_
    intro g2
    refine compU (fun j ys nw => ∃ cur n a b c nt nc vs ns gs, nw = (D, listOf (List.toArray vs2) k2) :: (tub, tubO cells cur n salt a b c nt) :: (cells, listOf (List.toArray vs) nc) :: R ∧ TubOk cur n salt vs ns (lim + 1 + 100 * i + 4 + j) ∧ IntsAre ys (natI gs) ∧ (∀ g ∈ gs, g < many) ∧ gs.length = j)
      ⟨cur9, _, a9, b9, c9, nt9, nc9, vs9, ns9, [], rfl, ok9.le (by omega), .nil, (fun _ h => (nomatch h)), rfl⟩ ?_ ?_
    · intro j ys nw hj hJ9 v I2 oI2 C oC D2 m₂ h tk E' hP hC2 hx F2 N2x off2 ne2
      (with_reducible show wpAny _ _ _ _ _ _)
      k_fold
      first | (refine' ex8 (hJ9) ?_; intro _ _ _ _ _ _ _ _ h9e; walk_at "sp 4") | (refine' ex6 (hJ9) ?_; intro _ _ _ _ _ _ h9e; walk_at "sp 6") | (refine' ex4 (hJ9) ?_; intro _ _ _ _ h9e; walk_at "sp 8") | (refine' ex3 (hJ9) ?_; intro _ _ _ h9e; walk_at "sp 9") | (refine' ex2 (hJ9) ?_; intro _ _ h9e; walk_at "sp 10") | (refine' ex1 (hJ9) ?_; intro _ h9e; walk_at "sp 11") | (refine' and6 (hJ9) ?_; intro _ _ _ _ _ h9e; walk_at "sp 7") | (refine' and4 (hJ9) ?_; intro _ _ _ h9e; walk_at "sp 9") | (refine' and3 (hJ9) ?_; intro _ _ h9e; walk_at "sp 10") | (refine' and2 (hJ9) ?_; intro _ h9e; walk_at "sp 11") | (obtain ⟨_, _, _, _, _, _, _, _, _, _, _, _⟩ := hJ9)
      rename_i cur4 n4 a4 b4 c4 nt4 nc4 vs4 ns4 gs e9x1326 r9x1327
      try (clear hJ9)
      subst e9x1326
      first | (refine' ex3 (r9x1327) ?_; intro _ _ _ _ ) | (refine' ex2 (r9x1327) ?_; intro _ _ h9e; walk_at "sp 2") | (refine' ex1 (r9x1327) ?_; intro _ h9e; walk_at "sp 3") | (refine' and4 (r9x1327) ?_; intro _ _ _ _ ) | (refine' and3 (r9x1327) ?_; intro _ _ h9e; walk_at "sp 2") | (refine' and2 (r9x1327) ?_; intro _ h9e; walk_at "sp 3") | (obtain ⟨_, _, _, _⟩ := r9x1327)
      rename_i ok4 hI hgs hgl
      try (clear r9x1327)
      clear ok9 ok2
      have e1 : @Ne Nat I2 tub := off2.2.1.1.symm
      have e2 : @Ne Nat C tub := off2.2.1.2.1.symm
      have e3 : @Ne Nat D2 tub := off2.2.1.2.2.symm
      have e4 : @Ne Nat I2 cells := off2.2.2.1.1.symm
      have e5 : @Ne Nat C cells := off2.2.2.1.2.1.symm
      have e6 : @Ne Nat D2 cells := off2.2.2.1.2.2.symm
      have hj3 : j ≤ 3 := by omega
      (try (with_reducible show wpAny _ _ _ _ _ _))
      (try k_fold)
      k_steps
      refine LCg.CompEnd.intro F9 N9 _ (fun _ h => h) off2 trivial ⟨cur9, _, a9, b9, c9, nt9, nc9, vs9, ns9, gs ++ [r9], rfl, ok9.le (by omega), intsSnoc hI r9 t9, fun g hg => ?_, by rw [List.length_append, hgl]; rfl⟩
      rcases List.mem_append.mp hg with hg | hg
      · exact hgs g hg
      · rw [List.mem_singleton.mp hg]; omega
    · skip
      intro ys nw q9x1332
      first | (refine' ex8 (q9x1332) ?_; intro _ _ _ _ _ _ _ _ h9e; walk_at "sp 4") | (refine' ex6 (q9x1332) ?_; intro _ _ _ _ _ _ h9e; walk_at "sp 6") | (refine' ex4 (q9x1332) ?_; intro _ _ _ _ h9e; walk_at "sp 8") | (refine' ex3 (q9x1332) ?_; intro _ _ _ h9e; walk_at "sp 9") | (refine' ex2 (q9x1332) ?_; intro _ _ h9e; walk_at "sp 10") | (refine' ex1 (q9x1332) ?_; intro _ h9e; walk_at "sp 11") | (refine' and6 (q9x1332) ?_; intro _ _ _ _ _ h9e; walk_at "sp 7") | (refine' and4 (q9x1332) ?_; intro _ _ _ h9e; walk_at "sp 9") | (refine' and3 (q9x1332) ?_; intro _ _ h9e; walk_at "sp 10") | (refine' and2 (q9x1332) ?_; intro _ h9e; walk_at "sp 11") | (obtain ⟨_, _, _, _, _, _, _, _, _, _, _, _⟩ := q9x1332)
      rename_i cur4 n4 a4 b4 c4 nt4 nc4 vs4 ns4 gs e9x1343 r9x1344
      try (clear q9x1332)
      subst e9x1343
      first | (refine' ex3 (r9x1344) ?_; intro _ _ _ _ ) | (refine' ex2 (r9x1344) ?_; intro _ _ h9e; walk_at "sp 2") | (refine' ex1 (r9x1344) ?_; intro _ h9e; walk_at "sp 3") | (refine' and4 (r9x1344) ?_; intro _ _ _ _ ) | (refine' and3 (r9x1344) ?_; intro _ _ h9e; walk_at "sp 2") | (refine' and2 (r9x1344) ?_; intro _ h9e; walk_at "sp 3") | (obtain ⟨_, _, _, _⟩ := r9x1344)
      rename_i ok4 hI hgs hgl
      try (clear r9x1344)
      clear ok9 ok2
      unfold LCg.FinA
      intro D3 h3 tk3 F3 N3 o3
      dsimp only
      (try (with_reducible show wpAny _ _ _ _ _ _))
      (try k_fold)
      k_steps
      refine ⟨?_⟩
      have hyl : ys.length = gs.length := by rw [hI.length]; exact List.length_map ..
      have d1 : @Ne Nat D3 D := o3.1.symm
      have d2 : @Ne Nat D3 tub := o3.2.1.symm
      have d3 : @Ne Nat D3 cells := o3.2.2.1.symm
      have d4 : ∀ p ∈ R, @Ne Nat p.1 D3 := off1Mem o3.2.2.2
      refine LCg.CompSrc.ledger (ax := D3) (by rfl) (by assumption) N3 (List.Mem.head _) (by rw [sizeLine_eq, List.size_toArray]; omega) ?_
      intro g2
      refine compU (fun j zs nw => ∃ cur n a b c nt nc vs ns V, nw = [(D3, LCg.lst ys), (D, listOf (List.toArray vs2) k2), (tub, tubO cells cur n salt a b c nt), (cells, listOf (List.toArray vs) nc)] ++ (V ++ R) ∧ ApartA [D3, D, tub, cells] R V ∧ TubOk cur n salt vs ns (lim + 1 + 100 * i + 7 + j) ∧ All2 (StepAt V) zs ((gs.take j).map some) ∧ zs.length = j)
        ⟨cur4, n4, a4, b4, c4, nt4, nc4, vs4, ns4, [], rfl, .nil, ok4.le (by omega), .nil, rfl⟩ ?_ ?_
      · intro j zs nw hj hJ9 v I2 oI2 C oC D2 m₂ h tk E' hP hC2 hx F2 N2x off2 ne2
        (with_reducible show wpAny _ _ _ _ _ _)
        k_fold
        first | (refine' ex8 (hJ9) ?_; intro _ _ _ _ _ _ _ _ h9e; walk_at "sp 4") | (refine' ex6 (hJ9) ?_; intro _ _ _ _ _ _ h9e; walk_at "sp 6") | (refine' ex4 (hJ9) ?_; intro _ _ _ _ h9e; walk_at "sp 8") | (refine' ex3 (hJ9) ?_; intro _ _ _ h9e; walk_at "sp 9") | (refine' ex2 (hJ9) ?_; intro _ _ h9e; walk_at "sp 10") | (refine' ex1 (hJ9) ?_; intro _ h9e; walk_at "sp 11") | (refine' and6 (hJ9) ?_; intro _ _ _ _ _ h9e; walk_at "sp 7") | (refine' and4 (hJ9) ?_; intro _ _ _ h9e; walk_at "sp 9") | (refine' and3 (hJ9) ?_; intro _ _ h9e; walk_at "sp 10") | (refine' and2 (hJ9) ?_; intro _ h9e; walk_at "sp 11") | (obtain ⟨_, _, _, _, _, _, _, _, _, _, _, _⟩ := hJ9)
        rename_i cur5 n5 a5 b5 c5 nt5 nc5 vs5 ns5 V e9x1359 r9x1360
        try (clear hJ9)
        subst e9x1359
        first | (refine' ex3 (r9x1360) ?_; intro _ _ _ _ ) | (refine' ex2 (r9x1360) ?_; intro _ _ h9e; walk_at "sp 2") | (refine' ex1 (r9x1360) ?_; intro _ h9e; walk_at "sp 3") | (refine' and4 (r9x1360) ?_; intro _ _ _ _ ) | (refine' and3 (r9x1360) ?_; intro _ _ h9e; walk_at "sp 2") | (refine' and2 (r9x1360) ?_; intro _ h9e; walk_at "sp 3") | (obtain ⟨_, _, _, _⟩ := r9x1360)
        rename_i hV ok5 hZ hzl
        try (clear r9x1360)
        clear ok4
        first | (refine' ex3 (ints_get hI (by simpa using hP)) ?_; intro _ _ _ _ ) | (refine' ex2 (ints_get hI (by simpa using hP)) ?_; intro _ _ h9e; walk_at "sp 2") | (refine' ex1 (ints_get hI (by simpa using hP)) ?_; intro _ h9e; walk_at "sp 3") | (refine' and4 (ints_get hI (by simpa using hP)) ?_; intro _ _ _ _ ) | (refine' and3 (ints_get hI (by simpa using hP)) ?_; intro _ _ h9e; walk_at "sp 2") | (refine' and2 (ints_get hI (by simpa using hP)) ?_; intro _ h9e; walk_at "sp 3") | (obtain ⟨_, _, _, _⟩ := ints_get hI (by simpa using hP))
        rename_i g tg hg e9x1368
        subst e9x1368
        have hgm : g < many := hgs g (List.mem_of_getElem? hg)
        have hg4 : g < 4 := by omega
        have hjs : j < gs.length := (List.getElem?_eq_some_iff.mp hg).1
        have e1 : @Ne Nat I2 tub := off2.2.2.1.1.symm
        have e2 : @Ne Nat C tub := off2.2.2.1.2.1.symm
        have e3 : @Ne Nat D2 tub := off2.2.2.1.2.2.symm
        have e4 : @Ne Nat I2 cells := off2.2.2.2.1.1.symm
        have e5 : @Ne Nat C cells := off2.2.2.2.1.2.1.symm
        have e6 : @Ne Nat D2 cells := off2.2.2.2.1.2.2.symm
        have hoV : OwnOff (V ++ R) [tub, cells] := ownVR hV (.tail _ (.tail _ (.head _))) (.tail _ (.tail _ (.tail _ (.head _)))) hoR
        dsimp only [List.cons_append, List.nil_append] at N2x
        (try (with_reducible show wpAny _ _ _ _ _ _))
        (try k_fold)
        k_steps
        refine cEndN (pre := [(D3, LCg.lst ys), (D, listOf (List.toArray vs2) k2), (tub, _), (cells, _)]) F9 N9 l9 off2 (.inr ⟨_, .head _, rfl, _, rfl⟩) ⟨cur9, _, a9, b9, c9, nt9, nc9, vs9, ns9, nw9 ++ V, rfl, apartApp hV l9 ?as fun p hp => .tail _ (.tail _ (.tail _ (.tail _ (.tail _ (.tail _ (.tail _ (List.mem_append.mpr (.inr hp)))))))), ok9.le (by omega), stepsSnoc hZ hg o9, by rw [List.length_append, hzl]; rfl⟩
        exact List.forall_mem_cons.mpr ⟨⟨_, .tail _ (.tail _ (.tail _ (.head _)))⟩, List.forall_mem_cons.mpr ⟨⟨_, .tail _ (.tail _ (.tail _ (.tail _ (.head _))))⟩, List.forall_mem_cons.mpr ⟨⟨_, .tail _ (.tail _ (.tail _ (.tail _ (.tail _ (.head _)))))⟩, List.forall_mem_cons.mpr ⟨⟨_, .tail _ (.tail _ (.tail _ (.tail _ (.tail _ (.tail _ (.head _))))))⟩, fun _ h => (nomatch h)⟩⟩⟩⟩
      · skip
        intro zs nw q9x1369
        first | (refine' ex8 (q9x1369) ?_; intro _ _ _ _ _ _ _ _ h9e; walk_at "sp 4") | (refine' ex6 (q9x1369) ?_; intro _ _ _ _ _ _ h9e; walk_at "sp 6") | (refine' ex4 (q9x1369) ?_; intro _ _ _ _ h9e; walk_at "sp 8") | (refine' ex3 (q9x1369) ?_; intro _ _ _ h9e; walk_at "sp 9") | (refine' ex2 (q9x1369) ?_; intro _ _ h9e; walk_at "sp 10") | (refine' ex1 (q9x1369) ?_; intro _ h9e; walk_at "sp 11") | (refine' and6 (q9x1369) ?_; intro _ _ _ _ _ h9e; walk_at "sp 7") | (refine' and4 (q9x1369) ?_; intro _ _ _ h9e; walk_at "sp 9") | (refine' and3 (q9x1369) ?_; intro _ _ h9e; walk_at "sp 10") | (refine' and2 (q9x1369) ?_; intro _ h9e; walk_at "sp 11") | (obtain ⟨_, _, _, _, _, _, _, _, _, _, _, _⟩ := q9x1369)
        rename_i cur5 n5 a5 b5 c5 nt5 nc5 vs5 ns5 V e9x1380 r9x1381
        try (clear q9x1369)
        subst e9x1380
        first | (refine' ex3 (r9x1381) ?_; intro _ _ _ _ ) | (refine' ex2 (r9x1381) ?_; intro _ _ h9e; walk_at "sp 2") | (refine' ex1 (r9x1381) ?_; intro _ h9e; walk_at "sp 3") | (refine' and4 (r9x1381) ?_; intro _ _ _ _ ) | (refine' and3 (r9x1381) ?_; intro _ _ h9e; walk_at "sp 2") | (refine' and2 (r9x1381) ?_; intro _ h9e; walk_at "sp 3") | (obtain ⟨_, _, _, _⟩ := r9x1381)
        rename_i hV ok5 hZ hzl
        try (clear r9x1381)
        clear ok4
        have hoV : OwnOff (V ++ R) [tub, cells] := ownVR hV (.tail _ (.tail _ (.head _))) (.tail _ (.tail _ (.tail _ (.head _)))) hoR
        have hzg : zs.length ≤ 10 := by rw [hzl, List.size_toArray]; omega
        dsimp only [List.cons_append, List.nil_append] at *
        unfold LCg.FinE
        intro D4 h4 tk4 F4 N4 o4
        dsimp only
        (try (with_reducible show wpAny _ _ _ _ _ _))
        (try k_fold)
        k_steps
        refine ⟨?_⟩
        first | (refine' ex6 (stNorm (by assumption) l1.2 l9 hV d1 d2 d3 d4) ?_; intro _ _ _ _ _ _ _ ) | (refine' ex4 (stNorm (by assumption) l1.2 l9 hV d1 d2 d3 d4) ?_; intro _ _ _ _ h9e; walk_at "sp 3") | (refine' ex3 (stNorm (by assumption) l1.2 l9 hV d1 d2 d3 d4) ?_; intro _ _ _ h9e; walk_at "sp 4") | (refine' ex2 (stNorm (by assumption) l1.2 l9 hV d1 d2 d3 d4) ?_; intro _ _ h9e; walk_at "sp 5") | (refine' ex1 (stNorm (by assumption) l1.2 l9 hV d1 d2 d3 d4) ?_; intro _ h9e; walk_at "sp 6") | (refine' and6 (stNorm (by assumption) l1.2 l9 hV d1 d2 d3 d4) ?_; intro _ _ _ _ _ h9e; walk_at "sp 2") | (refine' and4 (stNorm (by assumption) l1.2 l9 hV d1 d2 d3 d4) ?_; intro _ _ _ h9e; walk_at "sp 4") | (refine' and3 (stNorm (by assumption) l1.2 l9 hV d1 d2 d3 d4) ?_; intro _ _ h9e; walk_at "sp 5") | (refine' and2 (stNorm (by assumption) l1.2 l9 hV d1 d2 d3 d4) ?_; intro _ h9e; walk_at "sp 6") | (obtain ⟨_, _, _, _, _, _, _⟩ := stNorm (by assumption) l1.2 l9 hV d1 d2 d3 d4)
        rename_i V1 N5 hV1 mS mG hn1 hv1
        have hgt : gs.take ys.toArray.size = gs := by rw [List.size_toArray, hyl, List.take_length]
        rw [hgt] at hZ
        have hSt : StepsAt V1 (.ref D') gs := ⟨D', zs ++ [v9], 0, gs.map some ++ [none], rfl, mS, (hZ.imp fun _ _ => StepAt.mono hv1).append (.cons (o9.mono hn1) .nil), by simp [List.filterMap_append, List.filterMap_map], by rw [List.length_append]; simp only [List.length_cons, List.length_nil]; omega⟩
        have hGo : IntsL V1 D3 gs := ⟨ys, _, mG, hI, by omega⟩
        have hoP : OwnOff ((D, listOf (List.toArray vs2) k2) :: (V1 ++ R)) [tub, cells] := by
          intro p hp z hz
          rcases List.mem_cons.mp hp with rfl | hp
          · have hz : z = tub ∨ z = cells := by simpa using hz
            rcases hz with rfl | rfl
            · exact hDt
            · exact hDc
          · exact ownVR hV1 (.tail _ (.head _)) (.tail _ (.tail _ (.head _))) hoR p hp z hz
        clear hV hoV l9 l1 o9 hn1 hv1 hZ mS mG d1 d2 d3 d4
        rename Fr _ _ _ _ => F5
        clear hM9
        refine wcutF F5 (fun M0 f s' => f = .next ∧ ∃ pv V2 cur n a b c nt nc vs ns h tk, s' = { s with heap := h, toks := tk } ∧ Fr g' L' h (fun y => if y = Str.ofString "pattern" then some pv else M0 y) ∧
          News g' L' h ((tub, tubO cells cur n salt a b c nt) :: (cells, listOf (List.toArray vs) nc) :: (D, listOf (List.toArray vs2) k2) :: (V2 ++ R)) ∧ ApartA [D, tub, cells] R V2 ∧ (∀ p ∈ V1, p ∈ V2) ∧ PvAt V2 pv srt9 ∧ TubOk cur n salt vs ns (lim + 1 + 100 * i + 30)) ?_ ?_
        · skip
          (try (with_reducible show wpAny _ _ _ _ _ _))
          (try k_fold)
          k_steps
          · refine CutI.mk ⟨rfl, .none, V1, cur5, n5, a5, b5, c5, nt5, nc5, vs5, ns5, _, _, rfl, by assumption, by assumption, hV1, fun _ h => h, ?_, ok5.le (by omega)⟩
            have he := srt_endT (r := srt9) (by assumption)
            subst he
            rfl
          · refine CutI.mk ⟨rfl, v9, nw9 ++ V1, cur9, n9, a9, b9, c9, nt9, nc9, vs9, ns9, _, _, rfl, by assumption, newsPat (by assumption), apartPat hV1 l9 off9, fun _ h => List.mem_append.mpr (.inr h), (pvOf o9 (by assumption)).mono fun _ h => List.mem_append.mpr (.inl h), ok9.le (by omega)⟩
        · skip
          intro f s' q9x1393
          first | (refine' ex1 (q9x1393) ?_; intro _ _ ) | (refine' and2 (q9x1393) ?_; intro _ _ ) | (obtain ⟨_, _⟩ := q9x1393)
          rename_i e9x1394 r9x1395
          try (clear q9x1393)
          subst e9x1394
          first | (refine' ex12 (r9x1395) ?_; intro _ _ _ _ _ _ _ _ _ _ _ _ h9e; walk_at "sp 3") | (refine' ex8 (r9x1395) ?_; intro _ _ _ _ _ _ _ _ h9e; walk_at "sp 7") | (refine' ex6 (r9x1395) ?_; intro _ _ _ _ _ _ h9e; walk_at "sp 9") | (refine' ex4 (r9x1395) ?_; intro _ _ _ _ h9e; walk_at "sp 11") | (refine' ex3 (r9x1395) ?_; intro _ _ _ h9e; walk_at "sp 12") | (refine' ex2 (r9x1395) ?_; intro _ _ h9e; walk_at "sp 13") | (refine' ex1 (r9x1395) ?_; intro _ h9e; walk_at "sp 14") | (refine' and6 (r9x1395) ?_; intro _ _ _ _ _ h9e; walk_at "sp 10") | (refine' and4 (r9x1395) ?_; intro _ _ _ h9e; walk_at "sp 12") | (refine' and3 (r9x1395) ?_; intro _ _ h9e; walk_at "sp 13") | (refine' and2 (r9x1395) ?_; intro _ h9e; walk_at "sp 14") | (obtain ⟨_, _, _, _, _, _, _, _, _, _, _, _, _, _, _⟩ := r9x1395)
          rename_i pv V2 cur6 n6 a6 b6 c6 nt6 nc6 vs6 ns6 h6 tk6 e9x1409 r9x1410
          try (clear r9x1395)
          subst e9x1409
          first | (refine' ex4 (r9x1410) ?_; intro _ _ _ _ h9e; walk_at "sp 2") | (refine' ex3 (r9x1410) ?_; intro _ _ _ h9e; walk_at "sp 3") | (refine' ex2 (r9x1410) ?_; intro _ _ h9e; walk_at "sp 4") | (refine' ex1 (r9x1410) ?_; intro _ h9e; walk_at "sp 5") | (refine' and6 (r9x1410) ?_; intro _ _ _ _ _ _ ) | (refine' and4 (r9x1410) ?_; intro _ _ _ h9e; walk_at "sp 3") | (refine' and3 (r9x1410) ?_; intro _ _ h9e; walk_at "sp 4") | (refine' and2 (r9x1410) ?_; intro _ h9e; walk_at "sp 5") | (obtain ⟨_, _, _, _, _, _⟩ := r9x1410)
          rename_i F6 N6 hV2 hv12 hpv ok6
          try (clear r9x1410)
          have hM9 : HoldMark := ⟨⟩
          have hvl : vs2.length = rs.length := hS.rel.length
          have hVD : ∀ p ∈ V2 ++ R, @Ne Nat p.1 D := by
            intro p hp
            rcases List.mem_append.mp hp with hp | hp
            · exact (hV2.1 D (.head _) p hp).symm
            · rw [hRe] at hp
              rcases List.mem_cons.mp hp with rfl | hp
              · exact hDI.symm
              · rcases List.mem_append.mp hp with hp | hp
                · exact (hW.1 D (.head _) p hp).symm
                · exact hDb p hp
          (try dsimp only)
          (try (with_reducible show wpAny _ _ _ _ _ _))
          (try k_fold)
          k_steps
          rename_i T hT lT
          obtain ⟨pl, hpl, hplm⟩ : ∃ pl, IntsAre out9 (natI pl) ∧ ∀ p ∈ pl, p < many := ⟨_, io9, d2_lt (by omega) (by omega)⟩
          have hE := turnEnd hRe (by assumption) lT.2.2.2.2 l1.2.2.2 hV2 hW hDI htI hcI hrI
          have sV : ∀ (o1 o2 : Obj), ∀ p ∈ V2, p ∈ (T, o1) :: (D8, o2) :: (V2 ++ W) := fun _ _ p hp => .tail _ (.tail _ (List.mem_append.mpr (.inl hp)))
          have sW : ∀ (o1 o2 : Obj), ∀ p ∈ W, p ∈ (T, o1) :: (D8, o2) :: (V2 ++ W) := fun _ _ p hp => .tail _ (.tail _ (List.mem_append.mpr (.inr hp)))
          refine' CutI.mk ⟨_, _, _, _, rfl, ?F, hE.1, hE.2.1, ?K, vs2 ++ [.ref T], k2 + 1, _, rs ++ [⟨srt9, pl, gs⟩], cur6, n6, a6, b6, c6, nt6, nc6, vs6, ns6, rfl, hE.2.2, ⟨?rel, ?rok⟩, by rw [List.length_append, hlen]; rfl, ok6.le (by omega)⟩
          (case F => k_asm)
          (case K => walk_at "k_keeps")
          (case rel => exact (hS.rel.imp fun _ _ => RowX.mono (sW _ _)).append (.cons ⟨T, _, ts9, D8, pv, D3, .ref D', rfl, .head _, ⟨out9, _, .tail _ (.head _), hpl, by omega⟩, hGo.mono fun p hp => sV _ _ p (hv12 p hp), hpv.mono (sV _ _), hSt.mono fun p hp => sV _ _ p (hv12 p hp)⟩ .nil))
          (case rok =>
            intro r hr
            rcases List.mem_append.mp hr with hr | hr
            · exact hS.ok r hr
            · rw [List.mem_singleton.mp hr]; exact ⟨hplm, hgs⟩))
  (case done =>
    intro m₁ nx h tk hJ9 F1 N1
    first | (refine' ex12 (hJ9) ?_; intro _ _ _ _ _ _ _ _ _ _ _ _ h9e; walk_at "sp 4") | (refine' ex8 (hJ9) ?_; intro _ _ _ _ _ _ _ _ h9e; walk_at "sp 8") | (refine' ex6 (hJ9) ?_; intro _ _ _ _ _ _ h9e; walk_at "sp 10") | (refine' ex4 (hJ9) ?_; intro _ _ _ _ h9e; walk_at "sp 12") | (refine' ex3 (hJ9) ?_; intro _ _ _ h9e; walk_at "sp 13") | (refine' ex2 (hJ9) ?_; intro _ _ h9e; walk_at "sp 14") | (refine' ex1 (hJ9) ?_; intro _ h9e; walk_at "sp 15") | (refine' and6 (hJ9) ?_; intro _ _ _ _ _ h9e; walk_at "sp 11") | (refine' and4 (hJ9) ?_; intro _ _ _ h9e; walk_at "sp 13") | (refine' and3 (hJ9) ?_; intro _ _ h9e; walk_at "sp 14") | (refine' and2 (hJ9) ?_; intro _ h9e; walk_at "sp 15") | (obtain ⟨_, _, _, _, _, _, _, _, _, _, _, _, _, _, _, _⟩ := hJ9)
    rename_i hK vs2 k2 W rs cur2 n2 a2 b2 c2 nt2 nc2 vs3 ns3 e9x1431 r9x1432
    try (clear hJ9)
    subst e9x1431
    first | (refine' ex3 (r9x1432) ?_; intro _ _ _ _ ) | (refine' ex2 (r9x1432) ?_; intro _ _ h9e; walk_at "sp 2") | (refine' ex1 (r9x1432) ?_; intro _ h9e; walk_at "sp 3") | (refine' and4 (r9x1432) ?_; intro _ _ _ _ ) | (refine' and3 (r9x1432) ?_; intro _ _ h9e; walk_at "sp 2") | (refine' and2 (r9x1432) ?_; intro _ h9e; walk_at "sp 3") | (obtain ⟨_, _, _, _⟩ := r9x1432)
    rename_i hW hS hlen ok2
    try (clear r9x1432)
    obtain ⟨u, rfl⟩ := canon0 hK
    clear ok9 ok FR NR hr
    have hvl : vs2.length = rs.length := hS.rel.length
    k_steps
    refine' hret D ((D, listOf (List.toArray vs2) k2) :: W) rs cur2 n2 a2 b2 c2 nt2 nc2 vs3 ns3 _ _ ⟨vs2, k2, .head _, hS.rel.imp fun _ _ => RowX.mono fun _ hp => .tail _ hp, by omega⟩ hS.ok (by omega) (ok2.le (by omega)) ?own ?sep ?F ?N
    (case F => k_asm)
    (case N => exact newsSub (by assumption) (List.forall_mem_cons.mpr ⟨.tail _ (.head _), List.forall_mem_cons.mpr ⟨.tail _ (.tail _ (.head _)), List.forall_mem_cons.mpr ⟨.head _, fun p hp => .tail _ (.tail _ (.tail _ ((List.mem_append.mp hp).elim (fun h => List.mem_append.mpr (.inl h)) fun h => List.mem_append.mpr (.inr (hbl p h)))))⟩⟩⟩))
    (case own =>
      intro p hp z hz
      have hz' : z = tub ∨ z = cells := by simpa using hz
      rcases List.mem_cons.mp hp with rfl | hp
      · rcases hz' with rfl | rfl
        · exact hDt
        · exact hDc
      · exact (hW.1 z (by rcases hz' with rfl | rfl <;> simp) p hp).symm)
    (case sep => exact fun q hq => List.forall_mem_cons.mpr ⟨hDb q (hbl q hq), fun p hp => hW.2 q (hbl q hq) p hp⟩))

/-! two lists that hold the same data: == and != -/
section
variable {prog : Program} {w : World} {A : Around} {E : Value → Shared → Prop} {s : Shared} {h₀ : Heap} {L : Addr} {news : Led} {Q : Value → Shared → Prop}
theorem eqSelf {a b : Addr} {xs ys : List Value} {k k2 : Nat} {ds : List PyData} {as bs : List Addr} (N : News h₀ L s.heap news) (ma : (a, listOf xs.toArray k) ∈ news) (mb : (b, listOf ys.toArray k2) ∈ news)
    (ra : ReadsAll s.heap xs ds as) (rb : ReadsAll s.heap ys ds bs) (hs : SeqAt.shaped (.list ds) = true) (hm : SeqAt.noMix (.list ds) (.list ds) = true) (hu : A.units + 64 < cLine) (h : Q (.bool true) s) :
    wpAny (model prog w) A (compareOp .Eq (.ref a) (.ref b)) Q E s :=
  eq_dataH_same (reads_list_at (N _ ma).1 rfl rfl (by simpa [PySem.W.listOf] using ra)) (reads_list_at (N _ mb).1 rfl rfl (by simpa [PySem.W.listOf] using rb)) hs hs hu hm (by rw [PySem.Spec.same_self]; exact h)
theorem neSelf {a b : Addr} {xs ys : List Value} {k k2 : Nat} {ds : List PyData} {as bs : List Addr} (N : News h₀ L s.heap news) (ma : (a, listOf xs.toArray k) ∈ news) (mb : (b, listOf ys.toArray k2) ∈ news)
    (ra : ReadsAll s.heap xs ds as) (rb : ReadsAll s.heap ys ds bs) (hs : SeqAt.shaped (.list ds) = true) (hm : SeqAt.noMix (.list ds) (.list ds) = true) (hu : A.units + 64 < cLine) (h : Q (.bool false) s) :
    wpAny (model prog w) A (compareOp .NotEq (.ref a) (.ref b)) Q E s :=
  ne_dataH_same (reads_list_at (N _ ma).1 rfl rfl (by simpa [PySem.W.listOf] using ra)) (reads_list_at (N _ mb).1 rfl rfl (by simpa [PySem.W.listOf] using rb)) hs hs hu hm (by rw [PySem.Spec.same_self]; exact h)
theorem readsBools {h : Heap} : ∀ {vs : List Value} {bs : List Bool}, LSm.BoolsAre vs bs → ReadsAll h vs (bs.map PyData.bool) []
  | _, _, .nil => .nil
  | _, _, .cons b r => readsAll_cons_val (.bool b) (readsBools r)
theorem readsWarns {led : Led} {h : Heap} (N : News h₀ L h led) : ∀ {vs : List Value} {ws : List Warn}, All2 (WarnAt led) vs ws → ReadsAll h vs (ws.map fun x => PyData.tuple [.int (x.1 : Int), .str x.2.1, .str x.2.2]) [] := by
  intro vs ws hx
  induction hx with
  | nil => exact .nil
  | cons hy _ ih =>
    first | (refine' ex6 (hy) ?_; intro _ _ _ _ _ _ _ ) | (refine' ex4 (hy) ?_; intro _ _ _ _ h9e; walk_at "sp 3") | (refine' ex3 (hy) ?_; intro _ _ _ h9e; walk_at "sp 4") | (refine' ex2 (hy) ?_; intro _ _ h9e; walk_at "sp 5") | (refine' ex1 (hy) ?_; intro _ h9e; walk_at "sp 6") | (refine' and6 (hy) ?_; intro _ _ _ _ _ h9e; walk_at "sp 2") | (refine' and4 (hy) ?_; intro _ _ _ h9e; walk_at "sp 4") | (refine' and3 (hy) ?_; intro _ _ h9e; walk_at "sp 5") | (refine' and2 (hy) ?_; intro _ h9e; walk_at "sp 6") | (obtain ⟨_, _, _, _, _, _, _⟩ := hy)
    rename_i a k t1 t2 t3 e hm
    try (clear hy)
    subst e
    exact readsAll_cons_val (reads_tuple_at (N _ hm).1 rfl rfl (readsAll_cons_val (.int _ _) (readsAll_cons_val (.str _ _) (readsAll_cons_val (.str _ _) .nil)))) ih
theorem canBools : ∀ bs : List Bool, PyData.canLayAll0 (bs.map PyData.bool) = true ∧ PyData.depthAll (bs.map PyData.bool) = 0
  | [] => ⟨rfl, rfl⟩
  | _ :: r => ⟨by simp [PyData.canLayAll0, PyData.canLay0, (canBools r).1], by simp [PyData.depthAll, PyData.depth, (canBools r).2]⟩
theorem shapedBools (bs : List Bool) : SeqAt.shaped (.list (bs.map PyData.bool)) = true := by
  simp [SeqAt.shaped, PyData.canLay0, PyData.depth, (canBools bs).1, (canBools bs).2]
def WarnOk (x : Warn) : Prop := PyData.strOk x.2.1 = true ∧ PyData.strOk x.2.2 = true
theorem canWarns : ∀ ws : List Warn, (∀ x ∈ ws, WarnOk x) → PyData.canLayAll0 (ws.map fun x => PyData.tuple [.int (x.1 : Int), .str x.2.1, .str x.2.2]) = true ∧ PyData.depthAll (ws.map fun x => PyData.tuple [.int (x.1 : Int), .str x.2.1, .str x.2.2]) ≤ 1
  | [], _ => ⟨rfl, Nat.zero_le 1⟩
  | x :: r, h => by
    have h1 := h x (.head _)
    have h2 := canWarns r fun y hy => h y (.tail _ hy)
    exact ⟨by simp [PyData.canLayAll0, PyData.canLay0, h1.1, h1.2, h2.1], by simp [PyData.depthAll, PyData.depth, h2.2]⟩
theorem shapedWarns (ws : List Warn) (h : ∀ x ∈ ws, WarnOk x) : SeqAt.shaped (.list (ws.map fun x => PyData.tuple [.int (x.1 : Int), .str x.2.1, .str x.2.2])) = true := by
  have h2 := canWarns ws h
  unfold SeqAt.shaped
  rw [Bool.and_eq_true]
  refine ⟨by simp only [PyData.canLay0]; exact h2.1, decide_eq_true ?_⟩
  simp only [PyData.depth]
  omega
theorem noMixBools (bs : List Bool) : SeqAt.noMix (.list (bs.map PyData.bool)) (.list (bs.map PyData.bool)) = true :=
  SeqAt.noMix_of_shape (.list .bool) rfl _ _ (list_map_has fun _ => rfl) (list_map_has fun _ => rfl)
theorem noMixWarns (ws : List Warn) : SeqAt.noMix (.list (ws.map fun x => PyData.tuple [.int (x.1 : Int), .str x.2.1, .str x.2.2])) (.list (ws.map fun x => PyData.tuple [.int (x.1 : Int), .str x.2.1, .str x.2.2])) = true :=
  SeqAt.noMix_of_shape (.list (.tuple [.int, .str, .str])) rfl _ _ (list_map_has fun _ => rfl) (list_map_has fun _ => rfl)
theorem titleOk (p : Nat) : PyData.strOk (titleN p) = true := by
  unfold titleN
  match p with
  | 0 => decide +kernel
  | 1 => decide +kernel
  | 2 => decide +kernel
  | 3 => decide +kernel
  | p + 4 => simp only [List.getD_cons_succ, List.getD_nil]; decide +kernel
theorem okNE : PyData.strOk (Str.ofString "never entered") = true := by decide +kernel
theorem okNL : PyData.strOk (Str.ofString "never live") = true := by decide +kernel
theorem okSE : PyData.strOk (Str.ofString "second end") = true := by decide +kernel
theorem okNM : PyData.strOk (Str.ofString "never matched") = true := by decide +kernel
theorem okE : PyData.strOk (Str.ofString "") = true := by decide +kernel
theorem lawWarnOk (rs : List Row) (come : List Bool) (many : Nat) : ∀ x ∈ lawWarn rs come many, WarnOk x := by
  intro x hx
  unfold lawWarn at hx
  rcases List.mem_append.mp hx with hx | hx
  · obtain ⟨n, -, hx⟩ := List.mem_flatMap.mp hx
    unfold condWarn at hx
    split at hx
    · cases hx
    · rw [List.mem_singleton.mp hx]; exact ⟨okNE, titleOk _⟩
  · obtain ⟨n, -, hx⟩ := List.mem_flatMap.mp hx
    unfold rowWarn at hx
    split at hx
    · cases hx
    · split at hx
      · rw [List.mem_singleton.mp hx]; exact ⟨okNL, okE⟩
      · split at hx
        · obtain ⟨p, -, rfl⟩ := List.mem_map.mp hx; exact ⟨okSE, titleOk _⟩
        · cases hx
        · rw [List.mem_singleton.mp hx]; exact ⟨okNM, okE⟩
theorem eqB {a b : Addr} {xs ys : List Value} {k k2 : Nat} {bs : List Bool} (N : News h₀ L s.heap news) (ma : (a, listOf xs.toArray k) ∈ news) (mb : (b, listOf ys.toArray k2) ∈ news) (ha : LSm.BoolsAre xs bs) (hb : LSm.BoolsAre ys bs) (hu : A.units + 64 < cLine) (h : Q (.bool true) s) :
    wpAny (model prog w) A (compareOp .Eq (.ref a) (.ref b)) Q E s := eqSelf N ma mb (readsBools ha) (readsBools hb) (shapedBools _) (noMixBools _) hu h
theorem neB {a b : Addr} {xs ys : List Value} {k k2 : Nat} {bs : List Bool} (N : News h₀ L s.heap news) (ma : (a, listOf xs.toArray k) ∈ news) (mb : (b, listOf ys.toArray k2) ∈ news) (ha : LSm.BoolsAre xs bs) (hb : LSm.BoolsAre ys bs) (hu : A.units + 64 < cLine) (h : Q (.bool false) s) :
    wpAny (model prog w) A (compareOp .NotEq (.ref a) (.ref b)) Q E s := neSelf N ma mb (readsBools ha) (readsBools hb) (shapedBools _) (noMixBools _) hu h
theorem eqW {a b : Addr} {xs ys : List Value} {k k2 : Nat} {ws : List Warn} (N : News h₀ L s.heap news) (ma : (a, listOf xs.toArray k) ∈ news) (mb : (b, listOf ys.toArray k2) ∈ news) (ha : All2 (WarnAt news) xs ws) (hb : All2 (WarnAt news) ys ws) (hw : ∀ x ∈ ws, WarnOk x) (hu : A.units + 64 < cLine) (h : Q (.bool true) s) :
    wpAny (model prog w) A (compareOp .Eq (.ref a) (.ref b)) Q E s := eqSelf N ma mb (readsWarns N ha) (readsWarns N hb) (shapedWarns _ hw) (noMixWarns _) hu h
theorem neW {a b : Addr} {xs ys : List Value} {k k2 : Nat} {ws : List Warn} (N : News h₀ L s.heap news) (ma : (a, listOf xs.toArray k) ∈ news) (mb : (b, listOf ys.toArray k2) ∈ news) (ha : All2 (WarnAt news) xs ws) (hb : All2 (WarnAt news) ys ws) (hw : ∀ x ∈ ws, WarnOk x) (hu : A.units + 64 < cLine) (h : Q (.bool false) s) :
    wpAny (model prog w) A (compareOp .NotEq (.ref a) (.ref b)) Q E s := neSelf N ma mb (readsWarns N ha) (readsWarns N hb) (shapedWarns _ hw) (noMixWarns _) hu h
end

theorem words_tub_1 : True := by
  k_with "subscriptTail Name Slice ref ref" => (k_here; (with_reducible show wpAny _ _ (subscriptTail _ (PySem.Expr.Slice _ _ none _) (Value.ref _) (Value.ref _)) _ _ _); k_dflt (refine' sliceUpto ?F ?N ?l ?z ?_ ?s ?t; (case F => k_asm); (case N => k_asm); (case l => exact hL9); (case z => exact hv9); (case s => with_unfolding_all rfl); (case t => kmk_pure)); intro D' h' F' N' l1; (try k_lt l1))
  trivial
theorem tubC (w : World) {mean : ExcName → Option Value} {mg mb : Str → Option Value}
  {dp un : Nat} {gd : Option (List Code)} {cn : Str} {cs : Scope} {a0 : Addr} {ccd : Value} {cl0 : List (Str × Addr)} {outer : List Env} {A₀ : Around} {base0 h₀ : Heap} {L : Addr} {m : Str → Option Value} {s : Shared} {Q E : Value → Shared → Prop}
  {sc : Addr} {vs : List Value} {ns : List Int} {led : Led}
  (B : Below A₀ base0 outer h₀) (F : Fr h₀ L s.heap m) (X : (kmk.heap_1 w.params).In h₀) (N : News h₀ L s.heap led) (hL : h₀.IsList sc vs.toArray) (hI : IntsAre vs ns) (hlen : ns.length ≤ 63)
  (T : Top vw (looseW vw loose) mean mg mb h₀) (hk : cs.kind = .function) (hd1 : dp + 100 < recursionLimit) (hu1 : un + 500 < cLine)
  (hret : ∀ (tub cells : Addr) (salt : Int) (t1 t2 t3 : Tok) (nt nc : Nat) (vs' : List Value) (ns' : List Int) (h' : Heap) (tk' : Nat), TubOk 0 0 salt vs' ns' 1 → @Ne Nat tub cells → OwnOff led [tub, cells] → Fr h₀ L h' m →
    News h₀ L h' ((tub, tubO cells 0 0 salt t1 t2 t3 nt) :: (cells, listOf vs'.toArray nc) :: led) → Q (.ref tub) { s with heap := h', toks := tk' }) :
  wpAny (model PySem.Challenge.rw_qd0068_01.row.prog w) (ktrTop dp un gd cn cs L a0 ccd cl0 outer) (call (.ref 717) [.ref sc]) Q E s := by
  revert X; k_fill; intro X
  have hM9 : HoldMark := ⟨⟩
  refine wpAny_call ?_
  k_dflt walk_at "k_enter"
  have hL9 : h'.IsList sc vs.toArray := hL.at fun o e => F'.keep _ _ (FG'.keep _ _ e)
  have hv9 : vs.length < 1000 := by rw [hI.length]; omega
  (try (with_reducible show wpAny _ _ _ _ _ _))
  (try k_fold)
  k_steps
  refine ⟨?_⟩
  have hI6 := hI.take 60
  have hl6 : (vs.take 60).length < 100 := by rw [List.length_take]; omega
  refine LCg.CompSrc.ledger (ax := D') (by rfl) (by assumption) N' (List.Mem.head _) (Nat.le_trans (by rw [List.size_toArray]; exact Nat.le_of_lt hl6) (Nat.le_of_ble_eq_true rfl : 100 ≤ sizeLine)) ?_
  intro g2
  refine compUr (fun i ys => IntsAre ys ((ns.take 60).take i)) .nil ?_ ?_
  · intro i ys hi hJ v I oI C oC D m₂ h tk E' hP hC2 hx F2 N2x off2 ne2
    first | (refine' ex3 (IntsAre.at hI6 i v (by simpa using hP)) ?_; intro _ _ _ _ ) | (refine' ex2 (IntsAre.at hI6 i v (by simpa using hP)) ?_; intro _ _ h9e; walk_at "sp 2") | (refine' ex1 (IntsAre.at hI6 i v (by simpa using hP)) ?_; intro _ h9e; walk_at "sp 3") | (refine' and4 (IntsAre.at hI6 i v (by simpa using hP)) ?_; intro _ _ _ _ ) | (refine' and3 (IntsAre.at hI6 i v (by simpa using hP)) ?_; intro _ _ h9e; walk_at "sp 2") | (refine' and2 (IntsAre.at hI6 i v (by simpa using hP)) ?_; intro _ h9e; walk_at "sp 3") | (obtain ⟨_, _, _, _⟩ := IntsAre.at hI6 i v (by simpa using hP))
    rename_i x t e9x1446 r9x1447
    subst e9x1446
    have hx2 := r9x1447; clear r9x1447
    (try (with_reducible show wpAny _ _ _ _ _ _))
    (try k_fold)
    k_steps
    exact LCg.CompEnd.intro F2 N2x _ (fun _ h => h) off2 (.inr ⟨_, .head _, rfl, _, rfl⟩) ⟨rfl, by rw [List.take_add_one, hx2]; exact hJ.append (.cons x _ .nil)⟩
  · intro ys hJ
    unfold LCg.FinA
    intro D3 h3 tk3 F3 N3 o3
    dsimp only
    (try (with_reducible show wpAny _ _ _ _ _ _))
    (try k_fold)
    k_steps
    rename_i tkA tA lA hB FB NB lx kF kN _ _
    rw [List.size_toArray] at hJ
    have hyl := hJ.length
    have hnl := hI.length
    rw [List.length_take, List.length_take] at hyl
    refine' hret lA D3 ((List.take (List.take 60 vs).toArray.size (List.take 60 ns)).sum.fmod 1009) tk3 (tk3 + 1) (tkA + 1) 0 ys.length ys ((ns.take 60).take (vs.take 60).length) _ _ ⟨hJ, ?len, by omega, by omega, by omega, ?s0, ?s1⟩ ?ne ?off ?F ?N
    (case F => exact kF)
    (case N => exact newsSub kN (List.forall_mem_cons.mpr ⟨.head _, List.forall_mem_cons.mpr ⟨.tail _ (.head _), fun p hp => .tail _ (.tail _ (.tail _ hp))⟩⟩))
    (case len => (rw [List.length_take, List.length_take]; omega))
    (case s0 => exact Int.fmod_nonneg_of_pos _ (by decide))
    (case s1 => exact Int.fmod_lt_of_pos _ (by decide))
    (case ne => exact (Nat.ne_of_lt lx.1).symm)
    (case off =>
      intro p hp z hz
      have hz : z = lA ∨ z = D3 := by simpa using hz
      rcases hz with rfl | rfl
      · exact Nat.ne_of_lt (ktn_ltOf lx.2.2 p hp)
      · exact off1Mem o3.2 p hp)

/-! statements cut in two: the first n, and what is left -/
theorem execsApp {M : Model} {A : Around} {env : Env} {Q : Flow → Shared → Prop} {E : Value → Shared → Prop} (b : List Stmt) : ∀ (a : List Stmt) (Γ : PySem.Ctx) (p : Pos) (s : Shared), Γ.In A →
    Sem.wp M Γ (execs a env) (fun f _ s' => match f with | .next => wpAny M A (execs b env) Q E s' | f => Q f s') (fun e _ s' => E e s') p s → Sem.wp M Γ (execs (a ++ b) env) (fun f _ s' => Q f s') (fun e _ s' => E e s') p s
  | [], Γ, p, _, hΓ, h => h Γ p hΓ
  | st :: a, Γ, p, s, hΓ, h => by
    rw [execs_cons, Sem.wp_bind'] at h
    rw [List.cons_append, execs_cons, Sem.wp_bind']
    refine Sem.wp_mono M Γ _ (fun f p' s' h' => ?_) (fun _ _ _ h' => h') _ _ h
    cases f with
    | next => exact execsApp b a Γ p' s' hΓ h'
    | _ => exact h'
theorem cutX {M : Model} {A : Around} {env : Env} {Q : Flow → Shared → Prop} {E : Value → Shared → Prop} {s : Shared} (n : Nat) {l : List Stmt} (Mid : Shared → Prop) (h1 : wpAny M A (execs (l.take n) env) (fun f s' => CutI (f = .next ∧ Mid s')) E s)
    (h2 : ∀ r, r = l.drop n → ∀ s', Mid s' → wpAny M A (execs r env) Q E s') : wpAny M A (execs l env) Q E s := by
  intro Γ p hΓ
  have := execsApp (Q := Q) (E := E) (l.drop n) (l.take n) Γ p s hΓ (Sem.wp_mono M Γ _ (fun f p' s' h' => ?_) (fun _ _ _ h' => h') _ _ (h1 Γ p hΓ))
  · rwa [List.take_append_drop] at this
  · obtain ⟨e, q⟩ := h'.out
    subst e
    exact h2 _ rfl s' q
/-- a frame's map with what is known of it laid ahead -/
def chainM (m : Str → Option Value) : List (Str × Value) → Str → Option Value
  | [] => m
  | (k, v) :: l => fun y => if y = k then some v else chainM m l y
theorem chainEq {m : Str → Option Value} : ∀ (l : List (Str × Value)), (∀ p ∈ l, m p.1 = some p.2) → chainM m l = m
  | [], _ => rfl
  | (k, v) :: l, h => by
    have ih := chainEq l fun p hp => h p (.tail _ hp)
    funext y
    show (if y = k then some v else chainM m l y) = m y
    by_cases e : y = k
    · rw [if_pos e, e]; exact (h _ (.head _)).symm
    · rw [if_neg e, ih]
theorem frOf {h₀ h : Heap} {L : Addr} {m : Str → Option Value} (F : Fr h₀ L h m) (l : List (Str × Value)) (hl : ∀ p ∈ l, m p.1 = some p.2) : Fr h₀ L h (chainM m l) := by rw [chainEq l hl]; exact F
theorem frChain {h₀ h : Heap} {L : Addr} {m : Str → Option Value} (F : Fr h₀ L h m) (l : List (Str × Value)) (hl : ∀ p ∈ l, m p.1 = some p.2) : ∃ m0, Fr h₀ L h (chainM m0 l) := ⟨m, by rw [chainEq l hl]; exact F⟩
/-- the law's tub as it stands in a ledger -/
def TubS (tub cells : Addr) (salt lim : Int) (R led : Led) : Prop := ∃ cur n a b c nt nc vs ns, led = (tub, tubO cells cur n salt a b c nt) :: (cells, listOf (List.toArray vs) nc) :: R ∧ TubOk cur n salt vs ns lim

theorem compEndNew {h₀ h' : Heap} {L I C D T : Addr} {m : Str → Option Value} {s₁ : Shared} {oI oC oD oT : Obj} {S : Led → Prop} {rest : Value → Led → Prop} {y : Value} {tk : Nat} {nw : Led}
    (F : Fr h₀ L h' m) (N : News h₀ L h' ((T, oT) :: (I, oI) :: (C, oC) :: (D, oD) :: nw)) (off : LCg.Off3 I C D nw) (lt : @LT.lt Nat _ I T ∧ @LT.lt Nat _ C T ∧ @LT.lt Nat _ D T ∧ AllLt T nw) (hS : S ((T, oT) :: nw)) (r : rest y ((T, oT) :: nw)) :
    LCg.CompEnd h₀ L m s₁ I oI C oC D oD S rest y { s₁ with heap := h', toks := tk } := by
  refine LCg.CompEnd.intro F N ((T, oT) :: nw) ?_ ⟨⟨(Nat.ne_of_lt lt.1).symm, (Nat.ne_of_lt lt.2.1).symm, (Nat.ne_of_lt lt.2.2.1).symm⟩, off⟩ hS r
  exact List.forall_mem_cons.mpr ⟨.tail _ (.head _), List.forall_mem_cons.mpr ⟨.tail _ (.tail _ (.head _)), List.forall_mem_cons.mpr ⟨.tail _ (.tail _ (.tail _ (.head _))), List.forall_mem_cons.mpr ⟨.head _, fun p hp => .tail _ (.tail _ (.tail _ (.tail _ hp)))⟩⟩⟩⟩
/-- warnings made above base -/
structure VSt (base W : Led) (vs : List Value) (ws : List Warn) : Prop where
  rel : All2 (WarnAt W) vs ws
  ord : ∀ p ∈ W, ∀ q ∈ base, @Ne Nat q.1 p.1
theorem VSt.pushE {T : Addr} {base W : Led} {vs : List Value} {ws : List Warn} (x : Warn) {z : Int} {t1 t2 t3 : Tok} {k : Nat} (h : VSt base W vs ws) (hT : AllLt T (W ++ base)) (hz : z = (x.1 : Int)) :
    VSt base ((T, tupO #[.int z t1, .str x.2.1 t2, .str x.2.2 t3] k) :: W) (vs ++ [.ref T]) (ws ++ [x]) := by
  subst hz
  refine ⟨(h.rel.imp fun _ _ => WarnAt.mono fun _ hp => .tail _ hp).append (.cons ⟨T, k, t1, t2, t3, rfl, .head _⟩ .nil), ?_⟩
  intro p hp q hq
  rcases List.mem_cons.mp hp with rfl | hp
  · exact Nat.ne_of_lt (ktn_ltOf hT q (List.mem_append.mpr (.inr hq)))
  · exact h.ord p hp q hq
/-- the list of warnings as it grows in the law's own function: D the list, c the cell of number -/
def LJ (c : Addr) (base : Led) (ws : List Warn) (m : Str → Option Value) (nx : Led) : Prop := ∃ D vs k W o v, m (Str.ofString "found") = some (.ref D) ∧ nx = (D, listOf (List.toArray vs) k) :: (c, o) :: (W ++ base) ∧ o.data = .cell v ∧ WSt D base W vs ws ∧ @Ne Nat D c ∧ ∀ p ∈ W ++ base, @Ne Nat p.1 c
theorem wstOf {D : Addr} {base W : Led} {vs : List Value} {ws : List Warn} {c : Addr × Obj} (h : VSt (c :: base) W vs ws) (hD : ∀ p ∈ W ++ c :: base, @Ne Nat p.1 D) (hc : ∀ p ∈ base, @Ne Nat p.1 c.1) : WSt D base W vs ws ∧ @Ne Nat D c.1 ∧ ∀ p ∈ W ++ base, @Ne Nat p.1 c.1 := by
  refine ⟨⟨h.rel, fun p hp => hD p ?_, fun p hp q hq => h.ord p hp q (.tail _ hq)⟩, (hD c (List.mem_append.mpr (.inr (.head _)))).symm, fun p hp => ?_⟩
  · exact (List.mem_append.mp hp).elim (fun h => List.mem_append.mpr (.inl h)) fun h => List.mem_append.mpr (.inr (.tail _ h))
  · exact (List.mem_append.mp hp).elim (fun q => (h.ord p q c (.head _)).symm) fun q => hc p q
/-- found + more: the state of the list D2 that stands for both -/
theorem wstAdd {D D2 D3 c I : Addr} {base W V R : Led} {vs ys : List Value} {ws zs : List Warn} {oD oI oc o3 : Obj} (hR : R = (I, oI) :: (D, oD) :: (c, oc) :: (W ++ base)) (hW : WSt D base W vs ws) (hV : VSt R V ys zs) (hl : AllLt D2 ((D3, o3) :: (V ++ R))) (hc : ∀ p ∈ W ++ base, @Ne Nat p.1 c) (hI : ∀ p ∈ (D, oD) :: (c, oc) :: (W ++ base), @Ne Nat p.1 I) :
    WSt D2 base (V ++ W) (vs ++ ys) (ws ++ zs) ∧ @Ne Nat D2 c ∧ (∀ p ∈ (V ++ W) ++ base, @Ne Nat p.1 c) ∧ (@Ne Nat D2 I) ∧ (∀ p ∈ (c, oc) :: ((V ++ W) ++ base), @Ne Nat p.1 I) := by
  subst hR
  have M := @List.mem_append (Addr × Obj)
  have hl2 := ktn_ltOf hl.2
  refine ⟨⟨(hW.rel.imp fun _ _ => WarnAt.mono fun p hp => M.mpr (.inr hp)).append (hV.rel.imp fun _ _ => WarnAt.mono fun p hp => M.mpr (.inl hp)), fun p hp => ?_, fun p hp q hq => ?_⟩, ?_, fun p hp => ?_, ?_, List.forall_mem_cons.mpr ⟨hI _ (.tail _ (.head _)), fun p hp => ?_⟩⟩
  · rcases M.mp hp with h | h
    · rcases M.mp h with h | h
      · exact Nat.ne_of_lt (hl2 p (M.mpr (.inl h)))
      · exact Nat.ne_of_lt (hl2 p (M.mpr (.inr (.tail _ (.tail _ (.tail _ (M.mpr (.inl h))))))))
    · exact Nat.ne_of_lt (hl2 p (M.mpr (.inr (.tail _ (.tail _ (.tail _ (M.mpr (.inr h))))))))
  · rcases M.mp hp with h | h
    · exact hV.ord p h q (.tail _ (.tail _ (.tail _ (M.mpr (.inr hq)))))
    · exact hW.ord p h q hq
  · exact (Nat.ne_of_lt (hl2 (c, oc) (M.mpr (.inr (.tail _ (.tail _ (.head _))))))).symm
  · rcases M.mp hp with h | h
    · rcases M.mp h with h | h
      · exact (hV.ord p h _ (.tail _ (.tail _ (.head _)))).symm
      · exact hc p (M.mpr (.inl h))
    · exact hc p (M.mpr (.inr h))
  · exact (Nat.ne_of_lt (hl2 (I, oI) (M.mpr (.inr (.head _))))).symm
  · rcases M.mp hp with h | h
    · rcases M.mp h with h | h
      · exact (hV.ord p h _ (.head _)).symm
      · exact hI p (.tail _ (.tail _ (M.mpr (.inl h))))
    · exact hI p (.tail _ (.tail _ (M.mpr (.inr h))))
theorem newsAdd {h₀ h : Heap} {L D' D6 I D c : Addr} {oN o6 oI oD oc : Obj} {V R W base : Led} (hR : R = (I, oI) :: (D, oD) :: (c, oc) :: (W ++ base)) (N : News h₀ L h ((D', oN) :: (D6, o6) :: (V ++ R))) : News h₀ L h ((I, oI) :: (D', oN) :: (c, oc) :: ((V ++ W) ++ base)) := by
  subst hR
  have M := @List.mem_append (Addr × Obj)
  refine newsSub N (List.forall_mem_cons.mpr ⟨.tail _ (.tail _ (M.mpr (.inr (.head _)))), List.forall_mem_cons.mpr ⟨.head _, List.forall_mem_cons.mpr ⟨.tail _ (.tail _ (M.mpr (.inr (.tail _ (.tail _ (.head _)))))), fun p hp => .tail _ (.tail _ ?_)⟩⟩⟩)
  rcases M.mp hp with h | h
  · rcases M.mp h with h | h
    · exact M.mpr (.inl h)
    · exact M.mpr (.inr (.tail _ (.tail _ (.tail _ (M.mpr (.inl h))))))
  · exact M.mpr (.inr (.tail _ (.tail _ (.tail _ (M.mpr (.inr h))))))
theorem words_lawwarn_1 : True := by
  k_with "compareOp Eq ref ref" => (k_here; (with_reducible show wpAny _ _ (compareOp CmpOp.Eq (Value.ref _) (Value.ref _)) _ _ _); k_dflt (refine' ke_eq_ints ?eqA ?eqB ?eqI IntsAre.nil ?eqU ?_; (case eqA => (refine' isListN ?eqn ?eqm; (case eqn => k_asm); (case eqm => k_mem))); (case eqB => (refine' isListN ?eqp ?eqq; (case eqp => k_asm); (case eqq => k_mem))); (case eqI => assumption); (case eqU => first | ktr_units | (dsimp only [A1]; ktr_units))))
  trivial
theorem words_lawwarn_2 : True := by
  k_with "eval ListComp" => (k_here; lct_look; k_dflt (refine ListComp_Tt (_F₀ := by k_asm) (by with_unfolding_all rfl) (by decide) (by rfl) (by decide) (by rfl) ?_); walk_say "MINE")
  k_with "exec Assign cons ListComp" => (k_here; lct_look; (rename HoldMark => hM9); k_dflt (refine LCt.Assign_ListComp_T (F₀ := by k_asm) (by rfl) (by with_unfolding_all rfl) (by with_unfolding_all rfl) (by decide) (by rfl) (by decide) (by rfl) (by rfl) (by rfl) ?_); walk_say "MINE")
  trivial
theorem srt_bad (r : Srt) : (r.str == Str.ofString "bad") = (r == .bad) := by cases r <;> decide +kernel
theorem srt_isBad {r : Srt} (h : (r.str == Str.ofString "bad") = true) : r = .bad := by rw [srt_bad] at h; simpa using h
theorem srt_isGood {r : Srt} (h1 : (r.str == Str.ofString "end") = false) (h2 : (r.str == Str.ofString "bad") = false) : r = .good := by
  rw [srt_end] at h1
  rw [srt_bad] at h2
  cases r with
  | endS => cases h1
  | good => rfl
  | bad => cases h2
theorem lawWarnC (w : World) (rules come : Addr) (many : Nat) (rs : List Row) (cvs : List Value) (ck : Nat) (bs : List Bool) (sub : Led) (hR : RowsAt sub rules rs) (hC : (come, listOf cvs.toArray ck) ∈ sub) (hb : LSm.BoolsAre cvs bs) (hbl : bs.length = many) (hok : ∀ r ∈ rs, RowOk many r) (hm4 : many ≤ 4) :
    Con w 761 [.ref rules, .ref come] 300 2000 sub (fun x nw _ => ∃ D k, x = .ref D ∧ ∃ vs, ∃ W, nw = (D, listOf (List.toArray vs) k) :: W ∧ All2 (WarnAt W) vs (lawWarn rs bs many)) := by
  intro mean mg mb dp un gd cn cs a0 ccd cl0 outer A₀ base h₀ L m s Q E led B F X N hsub T hk hdp hu hret
  revert X; k_fill; intro X
  have hM9 : HoldMark := ⟨⟩
  replace hR := hR.mono hsub
  replace hC := hsub _ hC
  first | (refine' ex4 (id hR) ?_; intro _ _ _ _ _ ) | (refine' ex3 (id hR) ?_; intro _ _ _ h9e; walk_at "sp 2") | (refine' ex2 (id hR) ?_; intro _ _ h9e; walk_at "sp 3") | (refine' ex1 (id hR) ?_; intro _ h9e; walk_at "sp 4") | (refine' and4 (id hR) ?_; intro _ _ _ h9e; walk_at "sp 2") | (refine' and3 (id hR) ?_; intro _ _ h9e; walk_at "sp 3") | (refine' and2 (id hR) ?_; intro _ h9e; walk_at "sp 4") | (obtain ⟨_, _, _, _, _⟩ := id hR)
  rename_i rvs rk hm h2 hvl
  have hsz : rvs.toArray.size = rs.length := by rw [List.size_toArray, h2.length]
  have hcz : cvs.toArray.size = many := by rw [List.size_toArray, hb.length, hbl]
  have hrl : rs.length < 100 := by rw [← h2.length]; exact hvl
  refine wpAny_call ?_
  k_dflt walk_at "k_enter"
  rename_i o1 o2 o3 d1 d2 d3
  replace d1 : o1.data = .cell none := d1.trans (by rfl)
  replace d2 : o2.data = .cell (some (.ref come)) := d2.trans (by rfl)
  replace d3 : o3.data = .cell (some (.ref rules)) := d3.trans (by rfl)
  obtain ⟨base, hbase⟩ : ∃ b : Led, b = (L' + 1 + 1, o2) :: (L' + 1, o3) :: led := ⟨_, rfl⟩
  have mC : (L' + 1 + 1, o2) ∈ base := by rw [hbase]; exact .head _
  have mR : (L' + 1, o3) ∈ base := by rw [hbase]; exact .tail _ (.head _)
  have hbl' : ∀ p ∈ led, p ∈ base := fun p hp => by rw [hbase]; exact .tail _ (.tail _ hp)
  have hbc : ∀ p ∈ base, @Ne Nat p.1 (L' + 1 + 1 + 1) := by
    rw [hbase]
    intro p hp
    rcases List.mem_cons.mp hp with rfl | hp
    · show @Ne Nat _ _; omega
    · rcases List.mem_cons.mp hp with rfl | hp
      · show @Ne Nat _ _; omega
      · exact Nat.ne_of_lt (Nat.lt_of_lt_of_le (l1 p hp) (Nat.le_add_right L' 3))
  rw [← hbase] at N'
  have hRb := hR.mono hbl'
  have mCo := hbl' _ hC
  have mRu := hbl' _ hm
  refine letA ?_
  intro A1
  (try (with_reducible show wpAny _ _ _ _ _ _))
  (try k_fold)
  k_steps
  refine ⟨?_⟩
  refine LCt.CompSrcT.range (n := many) (by rfl) (by k_asm) (by k_asm) (by assumption) (small_one (by omega) (by omega) (by omega) (by omega)) (by rw [rangeSize_one]; split <;> omega) (by rw [sizeLine_eq]; omega) ?_
  intro g2
  refine compT (fun i ys nw => ∃ W, nw = W ++ ((L' + 1 + 1 + 1, o1) :: base) ∧ VSt ((L' + 1 + 1 + 1, o1) :: base) W ys ((List.range i).flatMap (condWarn bs))) ⟨[], rfl, .nil, fun _ h => nomatch h⟩ ?_ ?_
  · intro i ys nw hi hJ9 v I oI C oC D m₂ h tk E' hP hC2 hx F2 N2 off2 ne2
    (with_reducible show wpAny _ _ _ _ _ _)
    k_fold
    obtain ⟨tv, rfl⟩ := hP
    obtain ⟨W, rfl, hV⟩ := hJ9
    rw [Int.zero_add] at hx
    (try (with_reducible show wpAny _ _ _ _ _ _))
    (try k_fold)
    k_steps
    · exact LCg.CompEnd.intro (by k_asm) (by k_asm) _ (fun _ h => h) off2 trivial ⟨W, rfl, by rw [condWarn_no (by assumption)]; exact hV⟩
    · rename_i T hT FT NT lT
      exact compEndNew FT NT off2 lT trivial ⟨_ :: W, rfl, by rw [condWarn_yes (by assumption)]; exact hV.pushE (0, Str.ofString "never entered", titleN i) lT.2.2.2 rfl⟩
  · rintro ys nw ⟨W, rfl, hV⟩
    unfold LCg.FinA
    intro D3 h3 tk3 F3 N3 o3
    dsimp only
    (try (with_reducible show wpAny _ _ _ _ _ _))
    (try k_fold)
    k_steps
    refine ⟨?_⟩
    have hpl : ∀ r ∈ rs, r.places.length < 100 := by
      intro r hr
      obtain ⟨i, hi, rfl⟩ := List.mem_iff_getElem.mp hr
      obtain ⟨v, hv⟩ : ∃ v, rvs[i]? = some v := ⟨rvs[i]'(by rw [h2.length]; exact hi), by simp⟩
      first | (refine' ex12 (h2.get hv) ?_; intro _ _ _ _ _ _ _ _ _ _ _ _ _ ) | (refine' ex8 (h2.get hv) ?_; intro _ _ _ _ _ _ _ _ h9e; walk_at "sp 5") | (refine' ex6 (h2.get hv) ?_; intro _ _ _ _ _ _ h9e; walk_at "sp 7") | (refine' ex4 (h2.get hv) ?_; intro _ _ _ _ h9e; walk_at "sp 9") | (refine' ex3 (h2.get hv) ?_; intro _ _ _ h9e; walk_at "sp 10") | (refine' ex2 (h2.get hv) ?_; intro _ _ h9e; walk_at "sp 11") | (refine' ex1 (h2.get hv) ?_; intro _ h9e; walk_at "sp 12") | (refine' and6 (h2.get hv) ?_; intro _ _ _ _ _ h9e; walk_at "sp 8") | (refine' and4 (h2.get hv) ?_; intro _ _ _ h9e; walk_at "sp 10") | (refine' and3 (h2.get hv) ?_; intro _ _ h9e; walk_at "sp 11") | (refine' and2 (h2.get hv) ?_; intro _ h9e; walk_at "sp 12") | (obtain ⟨_, _, _, _, _, _, _, _, _, _, _, _, _⟩ := h2.get hv)
      rename_i r2 hr2 ar kr t pl pv gl st d9x1462 d9x1463 n9x1464 d9x1465
      clear d9x1462
      clear d9x1463
      first | (refine' ex4 (n9x1464) ?_; intro _ _ _ _ _ ) | (refine' ex3 (n9x1464) ?_; intro _ _ _ h9e; walk_at "sp 2") | (refine' ex2 (n9x1464) ?_; intro _ _ h9e; walk_at "sp 3") | (refine' ex1 (n9x1464) ?_; intro _ h9e; walk_at "sp 4") | (refine' and4 (n9x1464) ?_; intro _ _ _ h9e; walk_at "sp 2") | (refine' and3 (n9x1464) ?_; intro _ _ h9e; walk_at "sp 3") | (refine' and2 (n9x1464) ?_; intro _ h9e; walk_at "sp 4") | (obtain ⟨_, _, _, _, _⟩ := n9x1464)
      rename_i pvs kp hmp hip hplen
      try (clear n9x1464)
      clear d9x1465
      rw [List.getElem?_eq_getElem hi] at hr2
      obtain rfl := Option.some.inj hr2
      rw [hip.length] at hplen
      simpa [natI] using hplen
    rename Fr g' L' _ _ => F9
    have hw0 := wstOf (c := (L' + 1 + 1 + 1, o1)) hV (off1Mem o3) hbc
    have N9 : News g' L' h3 ((D3, listOf ys.toArray ys.length) :: (L' + 1 + 1 + 1, o1) :: (W ++ base)) := newsSub N3 (List.forall_mem_cons.mpr ⟨.head _, List.forall_mem_cons.mpr ⟨.tail _ (List.mem_append.mpr (.inr (.head _))), fun p hp => .tail _ ((List.mem_append.mp hp).elim (fun h => List.mem_append.mpr (.inl h)) fun h => List.mem_append.mpr (.inr (.tail _ h)))⟩⟩)
    clear N3
    refine forRangeX (n := rs.length) (nx₀ := (D3, listOf ys.toArray ys.length) :: (L' + 1 + 1 + 1, o1) :: (W ++ base)) F9 (fun i m nx => Keeps [Str.ofString "sort", Str.ofString "places", Str.ofString "found"] _ m ∧ LJ (L' + 1 + 1 + 1) base ((List.range many).flatMap (condWarn bs) ++ (List.range i).flatMap (rowWarn rs bs)) m nx)
      (fun _ => rfl) (by passes_own) ?hi (by rfl) (by omega) ⟨.refl, D3, ys, _, W, o1, none, rfl, rfl, d1, by simpa using hw0.1, hw0.2⟩ ?turn ?done
    (case hi =>
      clear hret
      (try (with_reducible show wpAny _ _ _ _ _ _))
      (try k_fold)
      k_steps
      refine' ⟨_, _, _, _, _, _, rfl, rfl, ?R, ?F, ?N⟩
      (case R => assumption)
      (case F => k_asm)
      (case N => walk_at "k_news"))
    (case turn =>
      clear hret hw0 hV
      intro i tv m₁ nx h tk I oI hi ho hJ9 F1 N1
      (with_reducible show wpAny _ _ _ _ _ _)
      k_fold
      first | (refine' ex8 (hJ9) ?_; intro _ _ _ _ _ _ _ _ h9e; walk_at "sp 2") | (refine' ex6 (hJ9) ?_; intro _ _ _ _ _ _ h9e; walk_at "sp 4") | (refine' ex4 (hJ9) ?_; intro _ _ _ _ h9e; walk_at "sp 6") | (refine' ex3 (hJ9) ?_; intro _ _ _ h9e; walk_at "sp 7") | (refine' ex2 (hJ9) ?_; intro _ _ h9e; walk_at "sp 8") | (refine' ex1 (hJ9) ?_; intro _ h9e; walk_at "sp 9") | (refine' and6 (hJ9) ?_; intro _ _ _ _ _ h9e; walk_at "sp 5") | (refine' and4 (hJ9) ?_; intro _ _ _ h9e; walk_at "sp 7") | (refine' and3 (hJ9) ?_; intro _ _ h9e; walk_at "sp 8") | (refine' and2 (hJ9) ?_; intro _ h9e; walk_at "sp 9") | (obtain ⟨_, _, _, _, _, _, _, _, _, _⟩ := hJ9)
      rename_i hK D vs k W oc vc hmf e9x1479 r9x1480
      try (clear hJ9)
      subst e9x1479
      first | (refine' ex3 (r9x1480) ?_; intro _ _ _ _ ) | (refine' ex2 (r9x1480) ?_; intro _ _ h9e; walk_at "sp 2") | (refine' ex1 (r9x1480) ?_; intro _ h9e; walk_at "sp 3") | (refine' and4 (r9x1480) ?_; intro _ _ _ _ ) | (refine' and3 (r9x1480) ?_; intro _ _ h9e; walk_at "sp 2") | (refine' and2 (r9x1480) ?_; intro _ h9e; walk_at "sp 3") | (obtain ⟨_, _, _, _⟩ := r9x1480)
      rename_i hoc hW hDc hWc
      try (clear r9x1480)
      obtain ⟨u', rfl⟩ := canon1 hK hmf
      clear hmf
      obtain ⟨v, hv⟩ : ∃ v, rvs[i]? = some v := ⟨rvs[i]'(by rw [h2.length]; exact hi), by simp⟩
      first | (refine' ex8 (h2.get hv) ?_; intro _ _ _ _ _ _ _ _ h9e; walk_at "sp 3") | (refine' ex6 (h2.get hv) ?_; intro _ _ _ _ _ _ h9e; walk_at "sp 5") | (refine' ex4 (h2.get hv) ?_; intro _ _ _ _ h9e; walk_at "sp 7") | (refine' ex3 (h2.get hv) ?_; intro _ _ _ h9e; walk_at "sp 8") | (refine' ex2 (h2.get hv) ?_; intro _ _ h9e; walk_at "sp 9") | (refine' ex1 (h2.get hv) ?_; intro _ h9e; walk_at "sp 10") | (refine' and6 (h2.get hv) ?_; intro _ _ _ _ _ h9e; walk_at "sp 6") | (refine' and4 (h2.get hv) ?_; intro _ _ _ h9e; walk_at "sp 8") | (refine' and3 (h2.get hv) ?_; intro _ _ h9e; walk_at "sp 9") | (refine' and2 (h2.get hv) ?_; intro _ h9e; walk_at "sp 10") | (obtain ⟨_, _, _, _, _, _, _, _, _, _, _⟩ := h2.get hv)
      rename_i r hr ar kr t pl pv gl st e9x1494 r9x1495
      subst e9x1494
      first | (refine' ex2 (r9x1495) ?_; intro _ _ _ ) | (refine' ex1 (r9x1495) ?_; intro _ h9e; walk_at "sp 2") | (refine' and3 (r9x1495) ?_; intro _ _ _ ) | (refine' and2 (r9x1495) ?_; intro _ h9e; walk_at "sp 2") | (obtain ⟨_, _, _⟩ := r9x1495)
      rename_i hm1 n9x1497 d9x1498
      try (clear r9x1495)
      first | (refine' ex4 (n9x1497) ?_; intro _ _ _ _ _ ) | (refine' ex3 (n9x1497) ?_; intro _ _ _ h9e; walk_at "sp 2") | (refine' ex2 (n9x1497) ?_; intro _ _ h9e; walk_at "sp 3") | (refine' ex1 (n9x1497) ?_; intro _ h9e; walk_at "sp 4") | (refine' and4 (n9x1497) ?_; intro _ _ _ h9e; walk_at "sp 2") | (refine' and3 (n9x1497) ?_; intro _ _ h9e; walk_at "sp 3") | (refine' and2 (n9x1497) ?_; intro _ h9e; walk_at "sp 4") | (obtain ⟨_, _, _, _, _⟩ := n9x1497)
      rename_i pvs kp hmp hip hplen
      try (clear n9x1497)
      clear d9x1498
      replace hm1 := hbl' _ hm1
      replace hmp := hbl' _ hmp
      have hpn : pvs.length = r.places.length := by rw [hip.length]; exact List.length_map ..
      have hvl := hW.rel.length
      have hcl2 := condWarn_len bs many
      have hcl3 := rowWarn_len rs hpl bs i
      rw [List.length_append] at hvl
      have hDI : @Ne Nat D I := ho _ (.head _)
      have hcI : @Ne Nat (L' + 1 + 1 + 1) I := ho _ (.tail _ (.head _))
      have hWI : ∀ p ∈ W ++ base, @Ne Nat p.1 I := fun p hp => ho p (.tail _ (.tail _ hp))
      have hWo := hW.off
      (try (with_reducible show wpAny _ _ _ _ _ _))
      (try k_fold)
      k_steps
      refine ⟨_, _, _, _, rfl, rfl, by k_asm, by k_asm, by k_mem, Nat.le_trans (Nat.le_of_lt hplen) (Nat.le_of_ble_eq_true rfl : 100 ≤ sizeLine), ?_⟩
      rintro s2 ⟨g2, rfl⟩
      refine compTr (fun i ys => IntsAre ys (natI ((r.places.take i).filter fun p => bs.getD p false))) .nil ?_ ?_
      · intro i2 ys hi2 hI v I2 oI2 C oC D m₂ h tk E' hv2 hC2 hx F2 N2 off2 ne2
        (with_reducible show wpAny _ _ _ _ _ _)
        k_fold
        first | (refine' ex3 (ints_get hip hv2) ?_; intro _ _ _ _ ) | (refine' ex2 (ints_get hip hv2) ?_; intro _ _ h9e; walk_at "sp 2") | (refine' ex1 (ints_get hip hv2) ?_; intro _ h9e; walk_at "sp 3") | (refine' and4 (ints_get hip hv2) ?_; intro _ _ _ _ ) | (refine' and3 (ints_get hip hv2) ?_; intro _ _ h9e; walk_at "sp 2") | (refine' and2 (ints_get hip hv2) ?_; intro _ h9e; walk_at "sp 3") | (obtain ⟨_, _, _, _⟩ := ints_get hip hv2)
        rename_i p tp hp2 e9x1507
        subst e9x1507
        have hpm : p < many := (hok r (List.mem_of_getElem? hr)).places p (List.mem_of_getElem? hp2)
        (try (with_reducible show wpAny _ _ _ _ _ _))
        (try k_fold)
        k_steps
        all_goals (
          rename_i q9
          refine' LCg.CompEnd.intro ?F ?N _ (fun _ h => h) off2 ?S ⟨rfl, ?I⟩
          (case F => k_asm)
          (case N => k_asm)
          (case S => k_mem)
          (case I => (have q8 := done_filter (t := tp) (f := fun p => bs.getD p false) hp2 hI; first | exact q8.1 (by simpa using q9) | exact q8.2 (by simpa using q9))))
      · intro ys hI
        rw [hpn, List.take_length] at hI
        unfold LCg.FinE
        intro D4 h4 tk4 F4 N4 o4
        dsimp only
        have hD4 : @Ne Nat D D4 := off1Mem o4 _ (.tail _ (.tail _ (.head _)))
        have hI4 : @Ne Nat I D4 := off1Mem o4 _ (.tail _ (.head _))
        have hc4 : @Ne Nat (L' + 1 + 1 + 1) D4 := off1Mem o4 _ (.tail _ (.tail _ (.tail _ (.head _))))
        (try (with_reducible show wpAny _ _ _ _ _ _))
        (try k_fold)
        k_steps
        · rename_i qd tk5 T h5 lT
          rename _ = Data.cell (some (Value.int _ _)) => d5
          rename Obj => o5
          refine' CutI.mk ⟨_, _, _, (D, listOf (vs ++ [Value.ref T]).toArray (k + 1)) :: (L' + 1 + 1 + 1, _) :: (((T, _) :: W) ++ base), rfl, ?F, ?N, ?o, ?K, D, vs ++ [.ref T], k + 1, _, _, _, ?mf, rfl, d5, ?W, hDc, ?Wc⟩
          (case F => k_asm)
          (case N => walk_at "k_news")
          (case K => walk_at "k_keeps")
          (case mf => rfl)
          (case W => (rw [rowWarn_live hr (filt_nil (by simpa using qd)), ← List.append_assoc]; exact hW.pushE (10 * i + 10, Str.ofString "never live", Str.ofString "") lT.2.2.2.2.2.2 lT.2.2.2.2.1 (by simp)))
          (case o => exact List.forall_mem_cons.mpr ⟨hDI, List.forall_mem_cons.mpr ⟨hcI, List.forall_mem_cons.mpr ⟨(Nat.ne_of_lt lT.2.2.2.1).symm, hWI⟩⟩⟩)
          (case Wc => exact List.forall_mem_cons.mpr ⟨(Nat.ne_of_lt lT.2.2.2.2.2.1).symm, hWc⟩)
        · rename_i l5 h5 F5 N5 lL qd tk5 qe
          rename _ = Data.cell (some (Value.int _ _)) => d5
          rename Obj => o5
          obtain ⟨R, hRe⟩ : ∃ R : Led, R = (I, oI) :: (D, listOf vs.toArray k) :: (L' + 1 + 1 + 1, o5) :: (W ++ base) := ⟨_, rfl⟩
          have N6 : News g' L' h5 R := by
            rw [hRe]
            exact newsSub N5 fun p hp => .tail _ (.tail _ (.tail _ hp))
          have bR : ∀ p ∈ base, p ∈ R := fun p hp => by rw [hRe]; exact .tail _ (.tail _ (.tail _ (List.mem_append.mpr (.inr hp))))
          have mc5 : (L' + 1 + 1 + 1, o5) ∈ R := by rw [hRe]; exact .tail _ (.tail _ (.head _))
          have mD5 : (D, listOf vs.toArray k) ∈ R := by rw [hRe]; exact .tail _ (.head _)
          have mR5 := bR _ mR
          have hR5 := hRb.mono bR
          have mp5 := bR _ hmp
          clear N5 lL
          refine ⟨_, _, _, _, rfl, rfl, by k_asm, N6, by k_mem, Nat.le_trans (Nat.le_of_lt hplen) (Nat.le_of_ble_eq_true rfl : 100 ≤ sizeLine), ?_⟩
          rintro s2 ⟨g3, rfl⟩
          refine compT (fun j ys nw => ∃ V, nw = V ++ R ∧ VSt R V ys (((r.places.take j).filter fun p => !isFirst rs i p).map fun p => (10 * i + 10, Str.ofString "second end", titleN p))) ⟨[], rfl, .nil, fun _ h => nomatch h⟩ ?_ ?_
          · intro j ys nw hj hJ9 v I2 oI2 C oC D5 m₂ h tk E' hv2 hC2 hx F2 N2 off2 ne2
            (with_reducible show wpAny _ _ _ _ _ _)
            k_fold
            first | (refine' ex3 (ints_get hip hv2) ?_; intro _ _ _ _ ) | (refine' ex2 (ints_get hip hv2) ?_; intro _ _ h9e; walk_at "sp 2") | (refine' ex1 (ints_get hip hv2) ?_; intro _ h9e; walk_at "sp 3") | (refine' and4 (ints_get hip hv2) ?_; intro _ _ _ _ ) | (refine' and3 (ints_get hip hv2) ?_; intro _ _ h9e; walk_at "sp 2") | (refine' and2 (ints_get hip hv2) ?_; intro _ h9e; walk_at "sp 3") | (obtain ⟨_, _, _, _⟩ := ints_get hip hv2)
            rename_i p tp hp2 e9x1511
            subst e9x1511
            have hpm : p < many := (hok r (List.mem_of_getElem? hr)).places p (List.mem_of_getElem? hp2)
            obtain ⟨V, rfl, hV⟩ := hJ9
            (try (with_reducible show wpAny _ _ _ _ _ _))
            (try k_fold)
            k_steps
            · rename_i q9
              exact LCg.CompEnd.intro (by k_asm) (by k_asm) _ (fun _ h => h) off2 (List.mem_append.mpr (.inr mp5)) ⟨V, rfl, by rw [filt_succ hp2, q9]; simpa using hV⟩
            · rename_i q9 T hT FT NT lT
              exact compEndNew FT NT off2 lT (.tail _ (List.mem_append.mpr (.inr mp5))) ⟨_ :: V, rfl, by rw [filt_succ hp2, q9]; exact hV.pushE (10 * i + 10, Str.ofString "second end", titleN p) lT.2.2.2 (by simp)⟩
          · rintro ys nw ⟨V, rfl, hV⟩
            unfold LCg.FinE
            intro D6 h6 tk6 F6 N6x o6
            dsimp only
            have hyl2 : ys.length < 100 := by
              rw [hV.rel.length, List.length_map, hpn, List.take_length]
              exact Nat.lt_of_le_of_lt (List.length_filter_le ..) (by rw [← hpn]; exact hplen)
            have hvl2 : vs.length < 20000 := by omega
            (try (with_reducible show wpAny _ _ _ _ _ _))
            (try k_fold)
            k_steps
            rw [hpn, List.take_length] at hV
            have hA := wstAdd (o3 := oI) hRe hW hV l1 hWc (List.forall_mem_cons.mpr ⟨hDI, List.forall_mem_cons.mpr ⟨hcI, hWI⟩⟩)
            rename News _ _ _ _ => N9
            refine' CutI.mk ⟨_, _, _, (D', listOf (vs ++ ys).toArray 0) :: (L' + 1 + 1 + 1, o5) :: ((V ++ W) ++ base), rfl, ?F, ?N, ?o, ?K, D', vs ++ ys, 0, V ++ W, _, _, ?mf, rfl, d5, ?W, hA.2.1, hA.2.2.1⟩
            (case F => k_asm)
            (case N => exact newsAdd hRe N9)
            (case K => walk_at "k_keeps")
            (case mf => rfl)
            (case W => (rw [rowWarn_end hr (filt_some (by simpa using qd)) (srt_endT qe), ← List.append_assoc]; exact hA.1))
            (case o => exact List.forall_mem_cons.mpr ⟨hA.2.2.2.1, hA.2.2.2.2⟩)
        · rename_i qd tk5 qe tk6 qb tk7 T h5 lT
          rename _ = Data.cell (some (Value.int _ _)) => d5
          refine' CutI.mk ⟨_, _, _, (D, listOf (vs ++ [Value.ref T]).toArray (k + 1)) :: (L' + 1 + 1 + 1, _) :: (((T, _) :: W) ++ base), rfl, ?F, ?N, ?o, ?K, D, vs ++ [.ref T], k + 1, _, _, _, ?mf, rfl, d5, ?W, hDc, ?Wc⟩
          (case F => k_asm)
          (case N => walk_at "k_news")
          (case K => walk_at "k_keeps")
          (case mf => rfl)
          (case W => (rw [rowWarn_bad hr (filt_some (by simpa using qd)) (srt_isBad qb), ← List.append_assoc]; exact hW.pushE (10 * i + 10, Str.ofString "never matched", Str.ofString "") lT.2.2.2.2.2.2 lT.2.2.2.2.1 (by simp)))
          (case o => exact List.forall_mem_cons.mpr ⟨hDI, List.forall_mem_cons.mpr ⟨hcI, List.forall_mem_cons.mpr ⟨(Nat.ne_of_lt lT.2.2.2.1).symm, hWI⟩⟩⟩)
          (case Wc => exact List.forall_mem_cons.mpr ⟨(Nat.ne_of_lt lT.2.2.2.2.2.1).symm, hWc⟩)
        · rename_i l5 h5 F5 N5 lL qd tk5 qe tk6 qb
          rename _ = Data.cell (some (Value.int _ _)) => d5
          refine' CutI.mk ⟨_, _, _, (D, listOf vs.toArray k) :: (L' + 1 + 1 + 1, _) :: (W ++ base), rfl, F5, newsSub N5 fun p hp => .tail _ (.tail _ (.tail _ hp)), ?o, ?K, D, vs, k, _, _, _, ?mf, rfl, d5, ?W, hDc, hWc⟩
          (case K => walk_at "k_keeps")
          (case mf => rfl)
          (case W => (rw [rowWarn_good hr (filt_some (by simpa using qd)) (srt_isGood qe qb)]; exact hW))
          (case o => exact List.forall_mem_cons.mpr ⟨hDI, List.forall_mem_cons.mpr ⟨hcI, hWI⟩⟩))
    (case done =>
      intro m₁ nx h tk hJ9 F1 N1
      first | (refine' ex8 (hJ9) ?_; intro _ _ _ _ _ _ _ _ h9e; walk_at "sp 2") | (refine' ex6 (hJ9) ?_; intro _ _ _ _ _ _ h9e; walk_at "sp 4") | (refine' ex4 (hJ9) ?_; intro _ _ _ _ h9e; walk_at "sp 6") | (refine' ex3 (hJ9) ?_; intro _ _ _ h9e; walk_at "sp 7") | (refine' ex2 (hJ9) ?_; intro _ _ h9e; walk_at "sp 8") | (refine' ex1 (hJ9) ?_; intro _ h9e; walk_at "sp 9") | (refine' and6 (hJ9) ?_; intro _ _ _ _ _ h9e; walk_at "sp 5") | (refine' and4 (hJ9) ?_; intro _ _ _ h9e; walk_at "sp 7") | (refine' and3 (hJ9) ?_; intro _ _ h9e; walk_at "sp 8") | (refine' and2 (hJ9) ?_; intro _ h9e; walk_at "sp 9") | (obtain ⟨_, _, _, _, _, _, _, _, _, _⟩ := hJ9)
      rename_i hK D vs k W oc vc hmf e9x1520 r9x1521
      try (clear hJ9)
      subst e9x1520
      first | (refine' ex3 (r9x1521) ?_; intro _ _ _ _ ) | (refine' ex2 (r9x1521) ?_; intro _ _ h9e; walk_at "sp 2") | (refine' ex1 (r9x1521) ?_; intro _ h9e; walk_at "sp 3") | (refine' and4 (r9x1521) ?_; intro _ _ _ _ ) | (refine' and3 (r9x1521) ?_; intro _ _ h9e; walk_at "sp 2") | (refine' and2 (r9x1521) ?_; intro _ h9e; walk_at "sp 3") | (obtain ⟨_, _, _, _⟩ := r9x1521)
      rename_i hoc hW hDc hWc
      try (clear r9x1521)
      obtain ⟨u', rfl⟩ := canon1 hK hmf
      k_steps
      rename_i kF kN _ _
      refine' hret _ ((D, listOf vs.toArray k) :: W) _ _ ⟨D, k, rfl, vs, W, rfl, hW.rel⟩ ?o kF ?N
      (case o => exact fun q hq => List.forall_mem_cons.mpr ⟨hW.off q (List.mem_append.mpr (.inr (hbl' q hq))), fun p hp => hW.ord p hp q (hbl' q hq)⟩)
      (case N => exact newsSub kN (List.forall_mem_cons.mpr ⟨.head _, fun p hp => .tail _ (.tail _ ((List.mem_append.mp hp).elim (fun h => List.mem_append.mpr (.inl h)) fun h => List.mem_append.mpr (.inr (hbl' p h))))⟩)))

/-! rules[at:] of a list -/
theorem pick_from (vs : List Value) (n : Nat) (hn : n ≤ vs.length) : slicePick vs.toArray (some (n : Int)) none none = (vs.drop n).toArray := by
  have e : sliceBounds (some (n : Int)) none none vs.toArray.size = (((n : Nat) : Int), ((vs.toArray.size : Nat) : Int), 1) := by
    have hs : vs.toArray.size = vs.length := List.size_toArray ..
    simp only [sliceBounds, Option.getD_none, show (1 : Int) > 0 by decide, if_true, if_neg (show ¬ ((n : Int) < 0) by omega)]
    congr 1
    omega
  rw [kmk_pick_nat _ e]
  congr 1
  show ((vs.drop n).take (vs.toArray.size - n)) = _
  rw [List.size_toArray]
  exact List.take_of_length_le (by rw [List.length_drop]; exact Nat.le_refl _)
theorem sliceFrom {prog : Program} {w : World} {A : Around} {E : Value → Shared → Prop} {s : Shared} {h₀ : Heap} {L l : Addr} {m : Str → Option Value} {news : List (Addr × Obj)} {value slice : PySem.Expr} {vs : List Value} {n : Nat} {tn : Tok} {Q : Value → Shared → Prop}
    (F : Fr h₀ L s.heap m) (N : News h₀ L s.heap news) (hl : s.heap.IsList l vs.toArray) (hz : vs.length < 1000) (hn : n ≤ vs.length)
    (h : ∀ D h', Fr h₀ L h' m → News h₀ L h' ((D, listOf (vs.drop n).toArray 0) :: news) → (∀ p ∈ news, p.1 < D) → Q (.ref D) { s with heap := h' })
    (hs : subscripted slice false (.ref l) (.ref s.heap.objs.size) = operate [.ref s.heap.objs.size, .ref l] (getItem (.ref l) (.ref s.heap.objs.size))) (ht : ∀ r, letTemporaryGo value (.ref l) r = pure ()) :
    wpAny (model prog w) A (subscriptTail value slice (.ref l) (.ref s.heap.objs.size)) Q E { s with heap := s.heap.push { cls := .type "slice", data := .fields #[.int (n : Int) tn, .none, .none] } } :=
  kmk_slice F N hl (IsPart.int _ _) IsPart.none (fun D h' F' N' l1 => h D h' F' (by rw [← pick_from vs n hn]; exact N') l1) hs ht (by rw [List.size_toArray, sizeLine_eq]; omega)

/-! tuple(range(n)) and list(range(n)) of unknown length -/
section
variable {prog : Program} {w : World} {A : Around} {E : Value → Shared → Prop} {s : Shared}
theorem collectRange {Q : List Value → Shared → Prop} {r : Addr} {a b c : Int} {t u v : Tok} {n : Nat} (hh : A.handled = none) (hr : IsRange s.heap r a b c t u v) (hsmall : Builtin.Range.small a b c = true)
    (hn : Builtin.Range.rangeSize a b c = n) (hlen : n ≤ 2 ^ 24)
    (hQ : ∀ h' tk acc, (∀ b o, s.heap.get? b = some o → h'.get? b = some o) → ItemsOf (fun i v => ∃ t, v = .int (a + i * c) t) acc n → Q acc.toList { s with heap := h', toks := tk }) :
    wpAny (model prog w) A (collect (.ref r)) Q E s := by
  unfold collect
  refine wpAny_bind (wpAny_runValue (codeAny_builtin F.entry_proto_collect ?_))
  rw [Around.under_plainId F.plain_proto_collect _]
  show wpAny _ A.in1 (newList [] >>= fun l => again (.builtin "list.__iadd__" ⟨[l, .ref r], []⟩)) _ _ s
  refine wpAny_bind (wpAny_newObj_type ?_)
  refine wpAny_pure ⟨plainId_quiet F.plain_list_iadd _, codeAny_builtin F.entry_list_iadd ?_⟩
  rw [Around.under_plainId F.plain_list_iadd _]
  show wpAny _ A.in1 (Builtin.List.listExtendWith (.ref s.heap.objs.size) (.ref r) (.ref s.heap.objs.size)) _ _ _
  have hS : (s.heap.push { cls := .type "list", data := .seq ([] : List Value).toArray }).get? s.heap.objs.size = some { cls := .type "list", data := .seq #[] 0 } := Heap.get?_push_size _ rfl
  have fin' : ∀ h' tk acc' c', (∀ b o, b ≠ s.heap.objs.size → (s.heap.push { cls := .type "list", data := .seq ([] : List Value).toArray }).get? b = some o → h'.get? b = some o) → h'.get? s.heap.objs.size = some { cls := .type "list", dict := none, data := .seq acc' c', slots := #[] } →
      ItemsOf (fun i v => ∃ t, v = .int (a + i * c) t) acc' n → wpAny (model prog w) A (match Value.ref s.heap.objs.size with
      | Value.ref a => do
        match (← load a).data with
          | Data.seq xs _ => pure xs.toList
          | _ => unsupported "internal:collect"
      | _ => unsupported "internal:collect") Q E { s with heap := h', toks := tk } := fun h' tk acc' c' hk hS' hacc => by
    show wpAny _ A (load s.heap.objs.size >>= _) _ _ _
    refine wpAny_bind (wpAny_load hS' (wpAny_pure ?_))
    exact hQ h' tk acc' (fun b o e => hk b o (Nat.ne_of_lt (Heap.lt_size e)) (Heap.get?_push_of_some _ e)) hacc
  refine wpAny_mono (wpAny_extend_range (A := A) (R := fun r s' => ∃ h' tk acc' c', r = .ok (.ret (.ref s.heap.objs.size)) ∧ s' = { s with heap := h', toks := tk } ∧ (∀ b o, b ≠ s.heap.objs.size → (s.heap.push { cls := .type "list", data := .seq ([] : List Value).toArray }).get? b = some o → h'.get? b = some o) ∧ h'.get? s.heap.objs.size = some { cls := .type "list", dict := none, data := .seq acc' c', slots := #[] } ∧ ItemsOf (fun i v => ∃ t, v = .int (a + i * c) t) acc' n)
    (s := { s with heap := s.heap.push { cls := .type "list", data := .seq ([] : List Value).toArray } }) hh (Heap.get?_push_of_some _ hr) hsmall hn hlen s.heap.objs.size (.ref s.heap.objs.size) 0 hS fun h' tk acc' c' hk hS' hacc => ⟨h', tk, acc', c', rfl, rfl, hk, hS', hacc⟩) (fun fin s' h => ?_) (fun e s' h => ?_)
  · cases fin with
    | done f =>
      first | (refine' ex6 (h) ?_; intro _ _ _ _ _ _ _ ) | (refine' ex4 (h) ?_; intro _ _ _ _ h9e; walk_at "sp 3") | (refine' ex3 (h) ?_; intro _ _ _ h9e; walk_at "sp 4") | (refine' ex2 (h) ?_; intro _ _ h9e; walk_at "sp 5") | (refine' ex1 (h) ?_; intro _ h9e; walk_at "sp 6") | (refine' and6 (h) ?_; intro _ _ _ _ _ h9e; walk_at "sp 2") | (refine' and4 (h) ?_; intro _ _ _ h9e; walk_at "sp 4") | (refine' and3 (h) ?_; intro _ _ h9e; walk_at "sp 5") | (refine' and2 (h) ?_; intro _ h9e; walk_at "sp 6") | (obtain ⟨_, _, _, _, _, _, _⟩ := h)
      rename_i h' tk acc' c' e e9x1531 r9x1532
      try (clear h)
      subst e9x1531
      obtain ⟨h1, h2, h3⟩ := r9x1532
      cases e
      exact fin' h' tk acc' c' h1 h2 h3
    | again c' => exact ⟨h.1, codeAny_mono h.2 fun r s'' hr => by obtain ⟨h', tk, acc', c', rfl, rfl, h1, h2, h3⟩ := hr; exact fin' h' tk acc' c' h1 h2 h3⟩
  · skip
    first | (refine' ex4 (h) ?_; intro _ _ _ _ h9e; walk_at "sp 2") | (refine' ex3 (h) ?_; intro _ _ _ h9e; walk_at "sp 3") | (refine' ex2 (h) ?_; intro _ _ h9e; walk_at "sp 4") | (refine' ex1 (h) ?_; intro _ h9e; walk_at "sp 5") | (refine' and6 (h) ?_; intro _ _ _ _ _ _ ) | (refine' and4 (h) ?_; intro _ _ _ h9e; walk_at "sp 3") | (refine' and3 (h) ?_; intro _ _ h9e; walk_at "sp 4") | (refine' and2 (h) ?_; intro _ h9e; walk_at "sp 5") | (obtain ⟨_, _, _, _, _, _⟩ := h)
    rename_i _ _ _ _ e _
    try (clear h)
    cases e
theorem code_tuple_new_range {Q₁ : Value → Shared → Prop} {r : Addr} {a b c : Int} {t u v : Tok} {n : Nat} (hh : A.handled = none) (hr : IsRange s.heap r a b c t u v) (hsmall : Builtin.Range.small a b c = true)
    (hn : Builtin.Range.rangeSize a b c = n) (hlen : n ≤ 2 ^ 24)
    (h : ∀ (h' : Heap) tk acc, (∀ b o, s.heap.get? b = some o → h'.get? b = some o) → ItemsOf (fun i v => ∃ t, v = .int (a + i * c) t) acc n → Q₁ (.ref h'.objs.size) { s with heap := h'.push { cls := .type "tuple", data := .seq acc }, toks := tk }) :
    codeAny (model prog w) A (.call (.builtin "tuple.__new__") ⟨[.type "tuple", .ref r], []⟩) (wants Q₁ E) s := by
  refine codeAny_of_tree ?_
  show wpAny _ A.in1 (do checkBuiltinCall "tuple.__new__" ⟨[.type "tuple", .ref r], []⟩; again (.builtin "tuple.__new__" ⟨[.type "tuple", .ref r], []⟩)) _ _ s
  refine wpAny_bind (wpAny_of_eq (F.newCall_tuple_1 _) (wpAny_pure ⟨plainId_quiet F.plain_tuple_new _, codeAny_builtin F.entry_tuple_new ?_⟩))
  rw [Around.under_plainId F.plain_tuple_new _]
  have hsub := sub_tuple_self
  have hinit := init_tuple_lookup
  have hmh := madeHere_tuple
  have hTI : s.TypeIs (.ref r) "range" := ⟨_, hr, rfl⟩
  wp_walk using wpAny_typeOf hTI, collectRange (A := A.in1) hh hr hsmall hn hlen
  intro h' tk acc hk hacc
  show wpAny _ _ (Builtin.Tuple.tupleExact acc.toList.toArray >>= fun v => ret v) _ _ _
  unfold Builtin.Tuple.tupleExact
  refine wpAny_bind (wpAny_newObj_type ?_ (by show acc.toList.toArray.size ≤ sizeLine; simp only [Array.toArray_toList]; rw [hacc.1, sizeLine_eq]; omega))
  refine wpAny_pure ?_
  have e : acc.toList.toArray = acc := by simp
  rw [e]
  exact h h' tk acc hk hacc
theorem callTupleRange {Q : Value → Shared → Prop} {r : Addr} {a b c : Int} {t u v : Tok} {n : Nat} (hh : A.handled = none) (hr : IsRange s.heap r a b c t u v) (hsmall : Builtin.Range.small a b c = true)
    (hn : Builtin.Range.rangeSize a b c = n) (hlen : n ≤ 2 ^ 24)
    (hQ : ∀ (h' : Heap) tk acc, (∀ b o, s.heap.get? b = some o → h'.get? b = some o) → ItemsOf (fun i v => ∃ t, v = .int (a + i * c) t) acc n → Q (.ref h'.objs.size) { s with heap := h'.push { cls := .type "tuple", data := .seq acc }, toks := tk }) :
    wpAny (model prog w) A (call (.type "tuple") [.ref r]) Q E s := by
  refine callType_codes (Q₁ := fun obj s₁ => s₁.TypeIs obj "tuple" ∧ Q obj s₁) F.called_tuple (F.typeCall_tuple_1 _) F.entry_object_init
    (code_tuple_new_range hh hr hsmall hn hlen fun h' tk acc hk hacc => ⟨⟨_, Heap.get?_push_size _ rfl, rfl⟩, hQ h' tk acc hk hacc⟩) fun obj s₁ h₁ => ?_
  exact ⟨h₁.1, F.args_object_init_2 obj _, object_init_meets F.called_tuple.init.lookup F.called_tuple.made (by decide) prog w A.in1 _ s₁ ⟨h₁.1, rfl, h₁.2⟩⟩
end
theorem rangeKs_natI : ∀ (n : Nat), rangeKs 0 n = natI (List.range n) := fun n => by
  unfold rangeKs natI
  apply List.map_congr_left
  intro i _
  simp
section
variable {prog : Program} {w : World} {A : Around} {E : Value → Shared → Prop} {s : Shared} {h₀ : Heap} {L r : Addr} {m : Str → Option Value} {news : Led} {t₀ u₀ v₀ : Tok} {n : Nat} {Q : Value → Shared → Prop}
theorem listRange (hh : A.handled = none) (F : Fr h₀ L s.heap m) (N : News h₀ L s.heap news) (hr : IsRange s.heap r 0 (n : Int) 1 t₀ u₀ v₀) (hz : n ≤ 1000)
    (h : ∀ D us c h' tk, IntsAre us (natI (List.range n)) → Fr h₀ L h' m → News h₀ L h' ((D, listOf (List.toArray us) c) :: news) → (∀ p ∈ news, p.1 < D) → Q (.ref D) { s with heap := h', toks := tk }) :
    wpAny (model prog w) A (call (.type "list") [.ref r]) Q E s := by
  refine kll_range hh F N hr (small_one (by omega) (by omega) (by omega) (by omega)) (n := n) (by rw [rangeSize_one]; split <;> omega) (by omega) fun D us c h' tk F' N' l hI => ?_
  rw [rangeKs_natI] at hI
  exact h D us c h' tk hI F' N' l
theorem tupleRange (hh : A.handled = none) (F : Fr h₀ L s.heap m) (N : News h₀ L s.heap news) (hr : IsRange s.heap r 0 (n : Int) 1 t₀ u₀ v₀) (hz : n ≤ 1000)
    (h : ∀ D us h' tk, IntsAre us (natI (List.range n)) → Fr h₀ L h' m → News h₀ L h' ((D, ({ cls := .type "tuple", data := .seq us.toArray } : Obj)) :: news) → (∀ p ∈ news, p.1 < D) → Q (.ref D) { s with heap := h', toks := tk }) :
    wpAny (model prog w) A (call (.type "tuple") [.ref r]) Q E s := by
  refine callTupleRange hh hr (small_one (by omega) (by omega) (by omega) (by omega)) (n := n) (by rw [rangeSize_one]; split <;> omega) (by omega) fun h' tk acc hk hI => ?_
  have F' : Fr h₀ L h' m := F.keeps hk
  have N' : News h₀ L h' news := fun p hp => ⟨hk _ _ (N p hp).1, (N p hp).2⟩
  have e : acc = acc.toList.toArray := by simp
  refine h h'.objs.size acc.toList _ tk ?_ (F'.push _) (N'.push F' _) fun p hp => Heap.lt_size (N' p hp).1
  rw [← rangeKs_natI]
  exact kll_ints _ _ _ (by rw [Array.length_toList]; exact hI.1) fun j v hj => hI.2 j v (by rw [← hj, Array.getElem?_toList])
end

/-! the law's last row: plain facts, and an if by its test -/
theorem ifX {M : Model} {A : Around} {env : Env} {test : PySem.Expr} {body orelse : List Stmt} {pos : Pos} {Q : Flow → Shared → Prop} {E : Value → Shared → Prop} {s : Shared} (P : Bool → Shared → Prop)
    (h1 : wpAny M A (isTrue test env (eval test env)) (fun b s' => CutI (P b s')) E s) (h2 : ∀ s', P true s' → wpAny M A (execs body env) Q E s') (h3 : ∀ s', P false s' → wpAny M A (execs orelse env) Q E s') :
    wpAny M A (execs [.If test body orelse pos] env) Q E s := by
  have nx : ∀ {l : List Stmt} {s' : Shared}, wpAny M A (execs l env) Q E s' → wpAny M A (execs l env) (fun f s'' => match f with | .next => wpAny M A (execs [] env) Q E s'' | f => Q f s'') E s' := fun h =>
    wpAny_mono h (fun f s' q => by cases f <;> first | exact wpAny_execs_nil q | exact q) fun _ _ e => e
  refine wpAny_execs_cons (wpAny_If (wpAny_mono h1 (fun b s' h => ?_) fun _ _ e => e))
  obtain ⟨h⟩ := h
  cases b with
  | true => exact nx (h2 s' h)
  | false => exact nx (h3 s' h)
theorem All2.drop {α β : Type} {R : α → β → Prop} {as : List α} {bs : List β} (h : All2 R as bs) : ∀ n, All2 R (as.drop n) (bs.drop n) := by
  induction h with
  | nil => intro n; cases n <;> exact .nil
  | cons a r ih => intro n; cases n with
    | zero => exact .cons a r
    | succ n => exact ih n
theorem rangeLt {many : Nat} : ∀ p ∈ List.range many, p < many := fun _ h => List.mem_range.mp h
theorem takeDropOk {rs : List Row} {many n : Nat} {x : Row} (hok : ∀ r ∈ rs, RowOk many r) (hx : RowOk many x) : ∀ r ∈ rs.take n ++ x :: rs.drop n, RowOk many r := fun r hr => by
  rcases List.mem_append.mp hr with hr | hr
  · exact hok r (List.mem_of_mem_take hr)
  · rcases List.mem_cons.mp hr with rfl | hr
    · exact hx
    · exact hok r (List.mem_of_mem_drop hr)
theorem endRow {rs : List Row} {many : Nat} (hok : ∀ r ∈ rs, RowOk many r) (hm : 1 ≤ many) :
    (∀ r ∈ rs ++ [(⟨.endS, (List.range many).filter fun p => !isFirst rs rs.length p, List.range many⟩ : Row)], RowOk many r) ∧ lawEnt (rs ++ [⟨.endS, (List.range many).filter fun p => !isFirst rs rs.length p, List.range many⟩]) many = lawEnt rs many := by
  have hx : RowOk many ⟨.endS, (List.range many).filter fun p => !isFirst rs rs.length p, List.range many⟩ := ⟨fun p hp => rangeLt p (List.mem_filter.mp hp).1, rangeLt⟩
  have h1 := takeDropOk (n := rs.length) hok hx
  have h2 := more_ent hok h1 hm (dead_end fun p hp => by have := (List.mem_filter.mp hp).2; simpa using this)
  rw [List.take_length, List.drop_length] at h1 h2
  exact ⟨h1, h2⟩
theorem badRow {rs : List Row} {many : Nat} (n : Nat) (hok : ∀ r ∈ rs, RowOk many r) (hm : 1 ≤ many) :
    (∀ r ∈ (rs.take n ++ [(⟨.bad, List.range many, List.range many⟩ : Row)]) ++ rs.drop n, RowOk many r) ∧ lawEnt ((rs.take n ++ [⟨.bad, List.range many, List.range many⟩]) ++ rs.drop n) many = lawEnt rs many := by
  have hx : RowOk many ⟨.bad, List.range many, List.range many⟩ := ⟨rangeLt, rangeLt⟩
  have h1 := takeDropOk (n := n) hok hx
  have h2 := more_ent hok h1 hm dead_bad
  have e : rs.take n ++ ⟨.bad, List.range many, List.range many⟩ :: rs.drop n = (rs.take n ++ [⟨.bad, List.range many, List.range many⟩]) ++ rs.drop n := by rw [List.append_assoc]; rfl
  rw [e] at h1 h2
  exact ⟨h1, h2⟩
theorem intsLen {us : List Value} {many : Nat} (h : IntsAre us (natI (List.range many))) : us.length = many := by
  rw [h.length]
  unfold natI
  rw [List.length_map, List.length_range]
theorem filLen {ev : List Value} {many : Nat} {f : Nat → Bool} (h : IntsAre ev (natI ((List.range many).filter f))) : ev.length ≤ many := by
  rw [h.length]
  unfold natI
  rw [List.length_map]
  have := List.length_filter_le f (List.range many)
  rwa [List.length_range] at this
/-- the pattern in the law's frame: the tub's pair drawn to the front -/
theorem patFront {h₀ h : Heap} {L tub cells : Addr} {o oc : Obj} {pre R : Led} (N : News h₀ L h (pre ++ (tub, o) :: (cells, oc) :: R)) : News h₀ L h ((tub, o) :: (cells, oc) :: (pre ++ R)) := by
  have M := @List.mem_append (Addr × Obj)
  refine newsSub N (List.forall_mem_cons.mpr ⟨M.mpr (.inr (.head _)), List.forall_mem_cons.mpr ⟨M.mpr (.inr (.tail _ (.head _))), fun p hp => ?_⟩⟩)
  rcases M.mp hp with h | h
  · exact M.mpr (.inl h)
  · exact M.mpr (.inr (.tail _ (.tail _ h)))
theorem rowX_new {W : Led} {T P G st : Addr} {srt : Srt} {ps gs : List Nat} {us us2 : List Value} {kp kg k : Nat} {t : Tok} {pv : Value}
    (mT : (T, tupO #[.str srt.str t, .ref P, pv, .ref G, .ref st] k) ∈ W) (mP : (P, tupO us.toArray kp) ∈ W) (hP : IntsAre us (natI ps)) (lP : us.length < 100)
    (mG : (G, listOf us2.toArray kg) ∈ W) (hG : IntsAre us2 (natI gs)) (lG : us2.length < 100) (hv : PvAt W pv srt) (hS : StepsAt W (.ref st) gs) : RowX W (.ref T) ⟨srt, ps, gs⟩ :=
  ⟨T, k, t, P, pv, G, .ref st, rfl, mT, ⟨us, kp, mP, hP, lP⟩, ⟨us2, kg, mG, hG, lG⟩, hv, hS⟩
theorem tail8 {a b c d e f g i : Addr × Obj} {R : Led} : ∀ p ∈ R, p ∈ a :: b :: c :: d :: e :: f :: g :: i :: R := fun _ hp => .tail _ (.tail _ (.tail _ (.tail _ (.tail _ (.tail _ (.tail _ (.tail _ hp)))))))
theorem patOwn {D8 D' tub cells : Addr} {o8 o' : Obj} {R : Led} {X1 X2 : Prop} (l1 : @LT.lt Nat _ D' D8 ∧ @LT.lt Nat _ tub D8 ∧ @LT.lt Nat _ cells D8 ∧ X1) (l0 : @LT.lt Nat _ tub D' ∧ @LT.lt Nat _ cells D' ∧ X2) (hO : OwnOff R [tub, cells]) : OwnOff ([(D8, o8), (D', o')] ++ R) [tub, cells] := by
  intro p hp z hz
  have hz' : z = tub ∨ z = cells := by simpa using hz
  rcases List.mem_cons.mp hp with rfl | hp
  · rcases hz' with rfl | rfl
    · exact (Nat.ne_of_lt l1.2.1).symm
    · exact (Nat.ne_of_lt l1.2.2.1).symm
  · rcases List.mem_cons.mp hp with rfl | hp
    · rcases hz' with rfl | rfl
      · exact (Nat.ne_of_lt l0.1).symm
      · exact (Nat.ne_of_lt l0.2.1).symm
    · exact hO p hp z hz
theorem patLetter {h₀ h : Heap} {L : Addr} {p1 p2 p3 p4 p5 : Addr × Obj} {nw R : Led} (N : News h₀ L h (p1 :: p2 :: (nw ++ ([p3, p4] ++ p5 :: R)))) : ∃ R5 : Led, News h₀ L h (p1 :: p2 :: p3 :: p4 :: p5 :: R5) ∧ (∀ p ∈ R, p ∈ R5) ∧ ∀ p ∈ nw, p ∈ R5 := by
  have M := @List.mem_append (Addr × Obj)
  refine ⟨nw ++ R, newsSub N ?_, fun p hp => M.mpr (.inr hp), fun p hp => M.mpr (.inl hp)⟩
  have up : ∀ p ∈ nw ++ ([p3, p4] ++ p5 :: R), p ∈ p1 :: p2 :: (nw ++ ([p3, p4] ++ p5 :: R)) := fun p hp => .tail _ (.tail _ hp)
  refine List.forall_mem_cons.mpr ⟨.head _, List.forall_mem_cons.mpr ⟨.tail _ (.head _), List.forall_mem_cons.mpr ⟨up _ (M.mpr (.inr (.head _))), List.forall_mem_cons.mpr ⟨up _ (M.mpr (.inr (.tail _ (.head _)))), List.forall_mem_cons.mpr ⟨up _ (M.mpr (.inr (.tail _ (.tail _ (.head _))))), fun p hp => up _ ?_⟩⟩⟩⟩⟩
  rcases M.mp hp with h | h
  · exact M.mpr (.inl h)
  · exact M.mpr (.inr (.tail _ (.tail _ (.tail _ h))))
theorem intsLt {us : List Value} {many : Nat} (h : IntsAre us (natI (List.range many))) (hm : many ≤ 4) : us.length < 100 := by rw [intsLen h]; omega
theorem tail11 {a b c d e f g i j k l : Addr × Obj} {R' R : Led} (h : ∀ p ∈ R', p ∈ R) : ∀ p ∈ R', p ∈ a :: b :: c :: d :: e :: f :: g :: i :: j :: k :: l :: R := fun p hp => .tail _ (.tail _ (.tail _ (.tail _ (.tail _ (.tail _ (.tail _ (.tail _ (.tail _ (.tail _ (.tail _ (h p hp)))))))))))
theorem moreLen {α : Type} {vs : List α} {x : α} (n : Nat) (h : vs.length < 99) : (vs.take n ++ [x] ++ vs.drop n).length < 100 := by
  simp only [List.length_append, List.length_take, List.length_drop, List.length_cons, List.length_nil]
  omega
theorem postL (l : OpenLaw) (ds : List WData) : l.row.claim.post ds (WData.bool true) ds = true := by
  simp only [RowW.claim, OpenLaw.row]
  rw [Bool.and_eq_true]
  refine ⟨?_, ?_⟩
  · first | rfl | simp [WShape.has]
  · unfold WTm.holds
    simp [WTm.value, PySem.W.same]
def keysM (m : Str → Option Value) : List (Str × Value) → List (Option Value)
  | [] => []
  | p :: l => m p.1 :: keysM m l
def valsM : List (Str × Value) → List (Option Value)
  | [] => []
  | p :: l => some p.2 :: valsM l
theorem frOfR {h₀ h : Heap} {L : Addr} {m : Str → Option Value} (F : Fr h₀ L h m) (l : List (Str × Value)) (e : keysM m l = valsM l) : Fr h₀ L h (chainM m l) := by
  refine frOf F l ?_
  clear F
  induction l with
  | nil => exact fun _ h => nomatch h
  | cons p l ih =>
    injection e with e1 e2
    exact List.forall_mem_cons.mpr ⟨e1, ih e2⟩

theorem minNat {prog : Program} {w : World} {A : Around} {E : Value → Shared → Prop} {s : Shared} {h₀ : Heap} {L : Addr} {m : Str → Option Value} {news : Led} {a b : Nat} {t u : Tok} {Q : Value → Shared → Prop} (hh : A.handled = none) (F : Fr h₀ L s.heap m) (N : News h₀ L s.heap news)
    (h : ∀ (n : Nat) (v : Tok) h' tk, n ≤ b → Fr h₀ L h' m → News h₀ L h' news → Q (.int (n : Int) v) { s with heap := h', toks := tk }) : wpAny (model prog w) A (call (.builtin "min") [.int (a : Int) t, .int (b : Int) u]) Q E s :=
  min_two_N hh F N fun h' tk F' N' => by
    split
    · exact h b _ h' tk (Nat.le_refl _) F' N'
    · exact h a _ h' tk (by omega) F' N'
theorem own4 {a b t c : Addr} {oa ob : Obj} (h : OwnOff [(a, oa), (b, ob)] [t, c]) : @Ne Nat a t ∧ @Ne Nat a c ∧ @Ne Nat b t ∧ @Ne Nat b c := ⟨h _ (.head _) _ (.head _), h _ (.head _) _ (.tail _ (.head _)), h _ (.tail _ (.head _)) _ (.head _), h _ (.tail _ (.head _)) _ (.tail _ (.head _))⟩
theorem words_law_1 : True := by
  k_with "subscriptTail Name Slice ref ref" => (k_here; (rename HoldMark => hM9); (with_reducible show wpAny _ _ (subscriptTail _ (PySem.Expr.Slice none (some _) none _) (Value.ref _) (Value.ref _)) _ _ _); k_dflt (refine' sliceUpto ?suF ?suN ?suL ?suZ ?_ ?suS ?suT; (case suF => k_asm); (case suN => k_asm); (case suL => (refine' isListN ?sun ?sum; (case sun => k_asm); (case sum => k_mem))); (case suZ => omega); (case suS => with_unfolding_all rfl); (case suT => kmk_pure)); intro D' h' F' N' l1; (try k_lt l1))
  k_with "subscriptTail Name Slice ref ref" => (k_here; (rename HoldMark => hM9); (with_reducible show wpAny _ _ (subscriptTail _ (PySem.Expr.Slice (some _) none none _) (Value.ref _) (Value.ref _)) _ _ _); k_dflt (refine' sliceFrom ?sfF ?sfN ?sfL ?sfZ ?sfB ?_ ?sfS ?sfT; (case sfF => k_asm); (case sfN => k_asm); (case sfL => (refine' isListN ?sfn ?sfm; (case sfn => k_asm); (case sfm => k_mem))); (case sfZ => omega); (case sfB => omega); (case sfS => with_unfolding_all rfl); (case sfT => kmk_pure)); intro D' h' F' N' l1; (try k_lt l1))
  k_with "call builtin:min" => (k_here; (with_reducible show wpAny _ _ (call (Value.builtin "min") [Value.int _ _, Value.int _ _]) _ _ _); k_dflt (refine' minNat ?mnH ?mnF ?mnN ?_; (case mnH => rfl); (case mnF => k_asm); (case mnN => k_asm)); intro at9 t9 h9 tk9 le9 F9 N9; (try dsimp only))
  k_with "newList" => (k_here; (rename HoldMark => hM9); k_dflt (first | refine' newList_K ?nlF ?nlN ?_ (Nat.zero_le _) | refine' newList_K ?nlF ?nlN ?_ (Nat.le_of_ble_eq_true rfl)); (case nlF => k_asm); (case nlN => k_asm); intro l' h' F' N' l1; (try k_lt l1); (try k_sweep))
  k_with "call builtin:len" => (k_here; (with_reducible show wpAny _ _ (call (Value.builtin "len") [Value.ref _]) _ _ _); k_dflt (refine' kun_lenL ?lnL ?lnK ?lnZ ?_; (case lnL => (refine' isListN ?lnn ?lnm; (case lnn => k_asm); (case lnm => k_mem))); (case lnK => (rw [List.size_toArray, hrvz])); (case lnZ => omega)))
  k_with "call ref" => (k_here; (with_reducible show wpAny _ _ (call (Value.ref 746) [Value.ref _, Value.int _ _] []) _ _ _); k_dflt (refine' doneC _ _ _ _ _ _ _ _ _ _ _ _ _ _ _ _ _ _ _ _ _ ?dnB ?dnF ?dnX _ _ _ _ _ _ ?dnN ?dns ?dnR ?dnn ?dnT ?dnK ?dnd ?dnu ?_; (case dnB => k_asm); (case dnF => k_asm); (case dnX => k_asm); (case dnN => k_asm); (case dnR => assumption); (case dns => walk_at "my sub"); (case dnn => omega); (case dnT => k_asm); (case dnK => first | exact rfl | assumption); (case dnd => exact roomA (by assumption) rfl); (case dnu => exact roomA (by assumption) rfl)); intro D9 vs9 k9 h9 tk9 i9 F9 N9; (try dsimp only); (try k_fold))
  k_with "call ref" => (k_here; (with_reducible show wpAny _ _ (call (Value.ref 741) [Value.ref _, Value.int _ _, Value.int _ _] []) _ _ _); k_dflt (refine' isFirstC _ _ _ _ _ _ _ _ _ _ _ _ _ _ _ _ _ _ _ _ _ ?ifB ?ifF ?ifX _ _ _ _ _ _ _ _ ?ifN ?ifs ?ifR ?ifn ?ifT ?ifK ?ifd ?ifu ?_; (case ifB => k_asm); (case ifF => k_asm); (case ifX => k_asm); (case ifN => k_asm); (case ifR => assumption); (case ifs => walk_at "my sub"); (case ifn => omega); (case ifT => k_asm); (case ifK => first | exact rfl | assumption); (case ifd => exact roomA (by assumption) rfl); (case ifu => exact roomA (by assumption) rfl)); intro h9 tk9 F9 N9; (try dsimp only); (try k_fold))
  k_with "call ref" => (k_here; (with_reducible show wpAny _ _ (call (Value.ref 751) [Value.ref _, Value.int _ _] []) _ _ _); k_dflt (refine' lawEntC _ _ _ _ _ _ _ _ _ _ _ _ _ _ _ _ _ _ _ _ _ ?leB ?leF ?leX _ _ _ _ _ _ ?leN ?les ?leR ?leo ?le2 ?le4 ?leT ?leK ?led ?leu ?_; (case leN => k_asm); (case leR => assumption); (case les => walk_at "my sub"); (case leo => assumption); (case le2 => assumption); (case le4 => assumption); (case leB => k_asm); (case leF => k_asm); (case leX => k_asm); (case leT => k_asm); (case leK => exact rfl); (case led => exact roomA (by assumption) rfl); (case leu => exact roomA (by assumption) rfl)); intro C9 cv9 kc9 h9 tk9 bc9 F9 N9; (try dsimp only); (try k_fold))
  k_with "con" => ((with_reducible refine' Con.mono (lawFileC _ _ _ _ _ _ _ _ ?lfA ?lfB) ?lfS); (case lfA => assumption); (case lfB => assumption); (case lfS => walk_at "my sub"))
  k_with "con" => ((with_reducible refine' Con.mono (warningsC _ _ _ _ _ _ _ _ _ _ _ ?wnA ?wnB ?wnC ?wnD) ?wnS); (case wnA => assumption); (case wnB => assumption); (case wnC => assumption); (case wnD => assumption); (case wnS => walk_at "my sub"))
  k_with "con" => ((with_reducible refine' lawWarnC _ _ _ _ _ _ _ _ _ ?lwA ?lwB ?lwC ?lwD ?lwE ?lwF); (case lwB => k_mem); (case lwA => (refine' RowsAt.mono ?lwR ?lwS; (case lwR => assumption); (case lwS => walk_at "my sub"))); (case lwC => assumption); (case lwD => exact lawEnt_len (by assumption)); (case lwE => assumption); (case lwF => assumption))
  k_with "con out" => (obtain ⟨D9, k9, e9, vs9, W9, e9', o9⟩ := o9; subst e9 e9'; (first | (have o8 := warnOut (by assumption) (by assumption) o9; clear o9; (try rw [hk9] at o8)) | (have o8 := o9; clear o9)); (try dsimp only [List.cons_append, List.nil_append] at N9 l9))
  k_with "con out" => (obtain ⟨f9, rl9, rvs9, rk9, e9, fa9⟩ := o9; subst e9)
  k_with "con out" => (obtain ⟨D9, k9, e9, vs9, e9', o9⟩ := o9; subst e9 e9'; (have o8 := entOut (by assumption) (by assumption) o9); clear o9; (try rw [hk9] at o8); (try dsimp only [List.cons_append, List.nil_append] at N9 l9))
  k_with "compareOp NotEq ref ref" => (k_here; (with_reducible show wpAny _ _ (compareOp CmpOp.NotEq (Value.ref _) (Value.ref _)) _ _ _); k_dflt (first
    | (refine' ke_ne_ints ?nzA ?nzB ?nzI IntsAre.nil ?nzU ?_; (case nzA => (refine' isListN ?nzn ?nzm; (case nzn => k_asm); (case nzm => k_mem))); (case nzB => (refine' isListN ?nzp ?nzq; (case nzp => k_asm); (case nzq => k_mem))); (case nzI => with_reducible assumption); (case nzU => exact roomA (by assumption) rfl))
    | (refine' neB ?neN ?neA ?neB ?neP ?neQ ?neU ?_; (case neN => k_asm); (case neA => k_mem); (case neB => k_mem); (case neP => with_reducible assumption); (case neQ => with_reducible assumption); (case neU => exact roomA (by assumption) rfl))
    | (refine' neW ?nwN ?nwA ?nwB ?nwP ?nwQ (lawWarnOk _ _ _) ?nwU ?_; (case nwN => k_asm); (case nwA => k_mem); (case nwB => k_mem); (case nwP => (refine' All2.imp (fun _ _ => WarnAt.mono ?nwS) ?nwH; (case nwH => with_reducible assumption); (case nwS => walk_at "my sub"))); (case nwQ => (refine' All2.imp (fun _ _ => WarnAt.mono ?nxS) ?nxH; (case nxH => with_reducible assumption); (case nxS => walk_at "my sub"))); (case nwU => exact roomA (by assumption) rfl))))
  k_with "call ref" => (k_here; (with_reducible show wpAny _ _ (call (Value.ref 736) [Value.ref _, Value.int _ _] []) _ _ _); k_dflt (refine' rulesC _ ?ruB ?ruF ?ruX ?ruN ?ru1 ?ru2 ?ruO ?ruok ?ru3 ?ru4 ?ruT ?ruK ?rud ?ruu ?rul ?_; (case ruN => k_asm); (case ru1 => assumption); (case ru2 => assumption); (case ruO => assumption); (case ruok => assumption); (case ru3 => assumption); (case ru4 => assumption); (case ruB => k_asm); (case ruF => k_asm); (case ruX => k_asm); (case ruT => k_asm); (case ruK => exact rfl); (case rud => exact roomA (by assumption) rfl); (case ruu => exact roomA (by assumption) rfl); (case rul => omega)); intro D9 nw9 rs9 cur9 n9 a9 b9 c9 nt9 nc9 vs9 ns9 h9 tk9 R9 rok9 rl9 ok9 off9 l9 F9 N9; (have q8 := rulesOff l9 hR); (have N8 := rulesNews N9); clear N9; (obtain ⟨x8, y8⟩ := ownHead hO); (try dsimp only); (try k_fold))
  k_with "eval Name" => (k_here; (with_reducible show wpAny _ _ (eval (PySem.Expr.Name _ _) (compEnvC _ _ _ _)) _ _ _); (rename HoldMark => hM9); k_dflt (first
    | refine LCgL.ld_global (by k_asm) (by k_asm) (by k_asm) (by k_is) ?_
    | refine LCgL.ld_built (by k_asm) (by k_asm) (by k_asm) (by k_is) (by boot_by_name) (by decide) ?_
    | (refine' lcf_free ?lfN ?lfc ?lfm ?lfd ?_ ?lfa ?lfb; (case lfa => rfl); (case lfb => rfl); (case lfN => k_asm); (case lfc => rfl); (case lfm => k_mem); (case lfd => k_asm); k_whole)
    | refine LCgL.ld_own (by k_asm) (by k_mem) (by assumption) (by with_reducible assumption) ?_))
  k_with "eval ListComp" => (k_here; (with_reducible show wpAny _ _ (eval (PySem.Expr.ListComp _ [⟨_, _, [], 0⟩] _ _) _) _ _ _); (rename HoldMark => hM9); k_dflt (refine LCg.ListComp_U (F₀ := by k_asm) (by with_unfolding_all rfl) (by decide) (by rfl) (by decide) (by rfl) ?_); walk_say "MINE")
  k_with "call ref" => (k_here; (with_reducible show wpAny _ _ (call (Value.ref 717) [Value.ref _] []) _ _ _); k_dflt (refine' tubC _ ?tbB ?tbF ?tbX ?tbN ?tbL ?tbI ?tbl ?tbT ?tbK ?tbd ?tbu ?_; (case tbN => k_asm); (case tbL => assumption); (case tbI => assumption); (case tbl => assumption); (case tbB => k_asm); (case tbF => k_asm); (case tbX => k_asm); (case tbT => k_asm); (case tbK => exact rfl); (case tbd => exact roomA (by assumption) rfl); (case tbu => exact roomA (by assumption) rfl)); intro tub9 cells9 salt9 a9 b9 c9 nt9 nc9 vs9 ns9 h9 tk9 ok9 tc9 off9 F9 N9; (obtain ⟨q1, q2, q3, q4⟩ := own4 off9); (try dsimp only at N9); (try dsimp only); (try k_fold))
  k_with "call type:tuple" => (k_here; (with_reducible show wpAny _ _ (call (Value.type _) [Value.ref _] []) _ _ _); (rename IsRange _ _ _ _ _ _ _ _ => rgX); k_dflt (refine' tupleRange ?trH ?trF ?trN rgX ?trZ ?_; (case trF => k_asm); (case trN => k_asm); (case trH => rfl); (case trZ => omega)); intro D8 us8 h9 tk9 is8 F9 N9 l1; (try k_lt l1))
  k_with "call type:list" => (k_here; (with_reducible show wpAny _ _ (call (Value.type _) [Value.ref _] []) _ _ _); (rename IsRange _ _ _ _ _ _ _ _ => rgX); k_dflt (refine' listRange ?lrH ?lrF ?lrN rgX ?lrZ ?_; (case lrF => k_asm); (case lrN => k_asm); (case lrH => rfl); (case lrZ => omega)); intro D8 us8 c8 h9 tk9 is8 F9 N9 l1; (try k_lt l1))
  k_with "call ref" => (k_here; (with_reducible show wpAny _ _ (call (Value.ref 731) [Value.ref _, Value.bool _] []) _ _ _); (rename News _ _ _ _ => N7); (have N6 := patFront (pre := [_, _]) N7); k_dflt (refine' patC _ ?pxB ?pxF ?pxX N6 ?px1 ?px2 ?pxO ?pxok ?pxT ?pxK ?pxd ?pxu ?pxlim ?_; (case px1 => assumption); (case px2 => assumption); (case pxO => (refine' patOwn ?po1 ?po2 ?po3; (case po1 => assumption); (case po2 => assumption); (case po3 => assumption))); (case pxok => assumption); (case pxB => k_asm); (case pxF => k_asm); (case pxX => k_asm); (case pxT => k_asm); (case pxK => exact rfl); (case pxd => exact roomA (by assumption) rfl); (case pxu => exact roomA (by assumption) rfl); (case pxlim => omega)); intro v9 nw9 cur9 n9 a9 b9 c9 nt9 nc9 vs9 ns9 h9 tk9 o9 ok9 off9 l9 F9 N9; (obtain ⟨R5, N8, s5, n5⟩ := patLetter N9); clear N9 N6; (have mR5 := s5 _ mR); (have hmr5 := s5 _ hmr); (try dsimp only); (try k_fold))
  k_with "binaryOp Add ref ref" => (k_here; (with_reducible show wpAny _ _ (binaryOp Operator.Add (Value.ref _) (Value.ref _)) _ _ _); k_dflt (refine' kmk_add_lit ?adF ?adN ?adA ?adB rfl ?_ ?adZ; (case adF => k_asm); (case adN => k_asm); (case adA => (refine' isListN ?adn ?adm; (case adn => k_asm); (case adm => k_mem))); (case adB => (refine' isListN ?aen ?aem; (case aen => k_asm); (case aem => k_mem))); (case adZ => (rw [sizeLine_eq]; (simp only [List.size_toArray, List.length_cons, List.length_nil, List.length_append, List.length_take, List.length_drop]); omega))); intro D' h' F' N' l1; (try dsimp only [List.cons_append, List.nil_append] at N'); (try k_lt l1))
  k_with "compareOp Eq ref ref" => (k_here; (with_reducible show wpAny _ _ (compareOp CmpOp.Eq (Value.ref _) (Value.ref _)) _ _ _); k_dflt (first
    | (refine' eqB ?eqN ?eqA ?eqB ?eqP ?eqQ ?eqU ?_; (case eqN => k_asm); (case eqA => k_mem); (case eqB => k_mem); (case eqP => with_reducible assumption); (case eqQ => with_reducible assumption); (case eqU => exact roomA (by assumption) rfl))
    | (refine' eqW ?ewN ?ewA ?ewB ?ewP ?ewQ (lawWarnOk _ _ _) ?ewU ?_; (case ewN => k_asm); (case ewA => k_mem); (case ewB => k_mem); (case ewP => (refine' All2.imp (fun _ _ => WarnAt.mono ?ewS) ?ewH; (case ewH => with_reducible assumption); (case ewS => walk_at "my sub"))); (case ewQ => (refine' All2.imp (fun _ _ => WarnAt.mono ?exS) ?exH; (case exH => with_reducible assumption); (case exS => walk_at "my sub"))); (case ewU => exact roomA (by assumption) rfl))))
  trivial
theorem ownUpd {l l' : Led} {own : List Addr} (h : OwnOff l own) (e : l'.map Prod.fst = l.map Prod.fst) : OwnOff l' own := fun p hp z hz => by
  have : p.1 ∈ l.map Prod.fst := e ▸ List.mem_map_of_mem hp
  obtain ⟨q, hq, e⟩ := List.mem_map.mp this
  rw [← e]; exact h q hq z hz
def CondsV (V : Led) (ys : List Value) (j : Nat) : Prop := ys.length = j ∧ ∀ i, i < j → ∃ x k t b, ys[i]? = some (.ref x) ∧ (x, tupO #[.str (titleN (1 + i)) t, .bool b] k) ∈ V
theorem ltSing {led : Led} {T : Addr} {o : Obj} (h : ∀ q ∈ led, q.1 < T) : ∀ q ∈ led, ∀ p ∈ [(T, o)], @Ne Nat q.1 p.1 := fun q hq p hp => by rw [List.mem_singleton.mp hp]; exact Nat.ne_of_lt (h q hq)
theorem ltN {h₀ h : Heap} {L T : Addr} {o : Obj} {X : Led} (_ : News h₀ L h ((T, o) :: X)) (l : ∀ q ∈ X, q.1 < T) : ∀ q ∈ X, ∀ p ∈ [(T, o)], @Ne Nat q.1 p.1 := ltSing l
theorem condsSnoc {V : Led} {ys : List Value} {j k : Nat} {T : Addr} {t : Tok} {b : Bool} (h : CondsV V ys j) : CondsV ((T, tupO #[.str (titleN (1 + j)) t, .bool b] k) :: V) (ys ++ [.ref T]) (j + 1) := by
  refine ⟨by rw [List.length_append, h.1]; rfl, fun i hi => ?_⟩
  by_cases e : i = j
  · subst e
    exact ⟨T, k, t, b, by rw [← h.1, List.getElem?_concat_length], .head _⟩
  · skip
    first | (refine' ex4 (h.2 i (by omega)) ?_; intro _ _ _ _ h9e; walk_at "sp 2") | (refine' ex3 (h.2 i (by omega)) ?_; intro _ _ _ h9e; walk_at "sp 3") | (refine' ex2 (h.2 i (by omega)) ?_; intro _ _ h9e; walk_at "sp 4") | (refine' ex1 (h.2 i (by omega)) ?_; intro _ h9e; walk_at "sp 5") | (refine' and6 (h.2 i (by omega)) ?_; intro _ _ _ _ _ _ ) | (refine' and4 (h.2 i (by omega)) ?_; intro _ _ _ h9e; walk_at "sp 3") | (refine' and3 (h.2 i (by omega)) ?_; intro _ _ h9e; walk_at "sp 4") | (refine' and2 (h.2 i (by omega)) ?_; intro _ h9e; walk_at "sp 5") | (obtain ⟨_, _, _, _, _, _⟩ := h.2 i (by omega))
    rename_i x k2 t2 b2 h1 h2
    exact ⟨x, k2, t2, b2, by rw [List.getElem?_append_left (by have := h.1; omega)]; exact h1, .tail _ h2⟩
theorem condsNews {h₀ h : Heap} {L D' D3 l0 D0 tub cells a b : Addr} {oN o3 ol oD ot oc oR oT : Obj} {V : Led} (N : News h₀ L h ((D', oN) :: (D3, o3) :: (l0, ol) :: (D0, oD) :: (tub, ot) :: (cells, oc) :: (V ++ [(a, oR), (b, oT)]))) :
    News h₀ L h ((tub, ot) :: (cells, oc) :: (a, oR) :: (D', oN) :: (D0, oD) :: (V ++ [(b, oT)])) := by
  refine newsSub N (List.forall_mem_cons.mpr ⟨.tail _ (.tail _ (.tail _ (.tail _ (.head _)))), List.forall_mem_cons.mpr ⟨.tail _ (.tail _ (.tail _ (.tail _ (.tail _ (.head _))))), List.forall_mem_cons.mpr ⟨?_, List.forall_mem_cons.mpr ⟨.head _, List.forall_mem_cons.mpr ⟨.tail _ (.tail _ (.tail _ (.head _))), fun p hp => ?_⟩⟩⟩⟩⟩)
  · exact .tail _ (.tail _ (.tail _ (.tail _ (.tail _ (.tail _ (List.mem_append.mpr (.inr (.head _))))))))
  · refine .tail _ (.tail _ (.tail _ (.tail _ (.tail _ (.tail _ (List.mem_append.mpr ?_))))))
    exact (List.mem_append.mp hp).elim .inl fun h => .inr (.tail _ h)
theorem condsFin {V : Led} {ys : List Value} {many k kx : Nat} {D' D0 : Addr} {t : Tok} {X : Led} (hm : 2 ≤ many) (h : CondsV V ys (many - 1)) :
    CondsAt ((D', listOf (Value.ref D0 :: ys).toArray k) :: (D0, tupO #[.str (Str.ofString "INITIAL") t, .bool false] kx) :: (V ++ X)) D' (Value.ref D0 :: ys) k many := by
  refine ⟨.head _, by rw [List.length_cons, h.1]; omega, fun i hi => ?_⟩
  match i with
  | 0 => exact ⟨D0, kx, t, false, rfl, .tail _ (.head _)⟩
  | i + 1 =>
    first | (refine' ex4 (h.2 i (by omega)) ?_; intro _ _ _ _ h9e; walk_at "sp 2") | (refine' ex3 (h.2 i (by omega)) ?_; intro _ _ _ h9e; walk_at "sp 3") | (refine' ex2 (h.2 i (by omega)) ?_; intro _ _ h9e; walk_at "sp 4") | (refine' ex1 (h.2 i (by omega)) ?_; intro _ h9e; walk_at "sp 5") | (refine' and6 (h.2 i (by omega)) ?_; intro _ _ _ _ _ _ ) | (refine' and4 (h.2 i (by omega)) ?_; intro _ _ _ h9e; walk_at "sp 3") | (refine' and3 (h.2 i (by omega)) ?_; intro _ _ h9e; walk_at "sp 4") | (refine' and2 (h.2 i (by omega)) ?_; intro _ h9e; walk_at "sp 5") | (obtain ⟨_, _, _, _, _, _⟩ := h.2 i (by omega))
    rename_i x k2 t2 b2 h1 h2
    rw [Nat.add_comm 1 i] at h2
    exact ⟨x, k2, t2, b2, h1, .tail _ (.tail _ (List.mem_append.mpr (.inl h2)))⟩
theorem condsOff {D' D0 l0 tub cells L : Addr} {oN oD oR oT : Obj} {V : Led} (hV : ApartA [l0, D0, tub, cells] [(L + 1 + 1, oR), (L + 1, oT)] V) (hO : OwnOff [(L + 1 + 1, oR), (L + 1, oT)] [tub, cells])
    (l1 : @LT.lt Nat _ tub D' ∧ @LT.lt Nat _ cells D' ∧ AllLt D' (V ++ [(L + 1 + 1, oR), (L + 1, oT)])) (l2 : @LT.lt Nat _ tub D0 ∧ @LT.lt Nat _ cells D0 ∧ @LT.lt Nat _ (L + 1 + 1) D0) :
    OwnOff ((L + 1 + 1, oR) :: (D', oN) :: (D0, oD) :: (V ++ [(L + 1, oT)])) [tub, cells] ∧ ∀ p ∈ (D', oN) :: (D0, oD) :: (V ++ [(L + 1, oT)]), @Ne Nat p.1 (L + 1 + 1) := by
  have hl := ktn_ltOf l1.2.2
  first | (refine' ex3 (own4 hO) ?_; intro _ _ _ _ ) | (refine' ex2 (own4 hO) ?_; intro _ _ h9e; walk_at "sp 2") | (refine' ex1 (own4 hO) ?_; intro _ h9e; walk_at "sp 3") | (refine' and4 (own4 hO) ?_; intro _ _ _ _ ) | (refine' and3 (own4 hO) ?_; intro _ _ h9e; walk_at "sp 2") | (refine' and2 (own4 hO) ?_; intro _ h9e; walk_at "sp 3") | (obtain ⟨_, _, _, _⟩ := own4 hO)
  rename_i q1 q2 q3 q4
  have two : ∀ {P : Addr → Prop}, P tub → P cells → ∀ z ∈ [tub, cells], P z := fun a b z hz => by
    rcases List.mem_cons.mp hz with rfl | hz
    · exact a
    · rw [List.mem_singleton.mp hz]; exact b
  refine ⟨List.forall_mem_cons.mpr ⟨two q1 q2, List.forall_mem_cons.mpr ⟨two (Nat.ne_of_lt l1.1).symm (Nat.ne_of_lt l1.2.1).symm, List.forall_mem_cons.mpr ⟨two (Nat.ne_of_lt l2.1).symm (Nat.ne_of_lt l2.2.1).symm, fun p hp => ?_⟩⟩⟩, List.forall_mem_cons.mpr ⟨?_, List.forall_mem_cons.mpr ⟨(Nat.ne_of_lt l2.2.2).symm, fun p hp => ?_⟩⟩⟩
  · rcases List.mem_append.mp hp with hp | hp
    · exact two (hV.1 tub (.tail _ (.tail _ (.head _))) p hp).symm (hV.1 cells (.tail _ (.tail _ (.tail _ (.head _)))) p hp).symm
    · rw [List.mem_singleton.mp hp]; exact two q3 q4
  · exact (Nat.ne_of_lt (hl (L + 1 + 1, oR) (List.mem_append.mpr (.inr (.head _))))).symm
  · rcases List.mem_append.mp hp with hp | hp
    · exact (hV.2 _ (.head _) p hp).symm
    · rw [List.mem_singleton.mp hp]; show @Ne Nat _ _; omega
theorem rulesNews {h₀ h : Heap} {L tub cells a : Addr} {ot oc oR : Obj} {nw R : Led} (N : News h₀ L h ((tub, ot) :: (cells, oc) :: (nw ++ (a, oR) :: R))) : News h₀ L h ((a, oR) :: (tub, ot) :: (cells, oc) :: (nw ++ R)) := by
  have M := @List.mem_append (Addr × Obj)
  refine newsSub N (List.forall_mem_cons.mpr ⟨.tail _ (.tail _ (M.mpr (.inr (.head _)))), List.forall_mem_cons.mpr ⟨.head _, List.forall_mem_cons.mpr ⟨.tail _ (.head _), fun p hp => .tail _ (.tail _ (M.mpr ((M.mp hp).elim .inl fun h => .inr (.tail _ h))))⟩⟩⟩)
theorem rulesNews2 {h₀ h : Heap} {L tub cells a : Addr} {ot oc oR : Obj} {X : Led} (N : News h₀ L h ((a, oR) :: (tub, ot) :: (cells, oc) :: X)) : News h₀ L h ((tub, ot) :: (cells, oc) :: (a, oR) :: X) :=
  newsSub N (List.forall_mem_cons.mpr ⟨.tail _ (.head _), List.forall_mem_cons.mpr ⟨.tail _ (.tail _ (.head _)), List.forall_mem_cons.mpr ⟨.head _, fun p hp => .tail _ (.tail _ (.tail _ hp))⟩⟩⟩)
theorem rulesOff {a : Addr} {o : Obj} {nw R : Led} (l : ∀ q ∈ (a, o) :: R, ∀ p ∈ nw, @Ne Nat q.1 p.1) (hR : ∀ p ∈ R, @Ne Nat p.1 a) : ∀ p ∈ nw ++ R, @Ne Nat p.1 a := fun p hp =>
  (List.mem_append.mp hp).elim (fun h => (l _ (.head _) p h).symm) (hR p)
theorem ownHead {a tub cells : Addr} {o : Obj} {R : Led} (hO : OwnOff ((a, o) :: R) [tub, cells]) : @Ne Nat a tub ∧ @Ne Nat a cells := ⟨hO _ (.head _) _ (.head _), hO _ (.head _) _ (.tail _ (.head _))⟩
theorem rulesOwn {a tub cells : Addr} {o o' : Obj} {nw R : Led} (hO : OwnOff ((a, o) :: R) [tub, cells]) (h9 : OwnOff nw [tub, cells]) : OwnOff ((a, o') :: (nw ++ R)) [tub, cells] :=
  List.forall_mem_cons.mpr ⟨hO (a, o) (.head _), fun p hp => (List.mem_append.mp hp).elim (h9 p) fun h => hO p (.tail _ h)⟩
theorem warnOut {rs : List Row} {many : Nat} {W : Led} {vs : List Value} (hok : ∀ r ∈ rs, RowOk many r) (hm : 1 ≤ many) (h : ∃ bs, Reach rs many (bs, []) ∧ All2 (WarnAt W) vs (lawWarn rs bs many)) : All2 (WarnAt W) vs (lawWarn rs (lawEnt rs many) many) := by
  obtain ⟨bs, r, h⟩ := h
  rw [← reach_ent hok hm r]; exact h
theorem entOut {rs : List Row} {many : Nat} {vs : List Value} (hok : ∀ r ∈ rs, RowOk many r) (hm : 1 ≤ many) (h : ∃ bs, LSm.BoolsAre vs bs ∧ Reach rs many (bs, [])) : LSm.BoolsAre vs (lawEnt rs many) := by
  obtain ⟨bs, h, r⟩ := h
  rw [← reach_ent hok hm r]; exact h
theorem comeOff {h₀ h : Heap} {L tub cells C : Addr} {cur n salt : Int} {a b c : Tok} {nt nc kc : Nat} {vs1 cv : List Value} {ns1 : List Int} {bs : List Bool} {R : Led}
    (N : News h₀ L h ((tub, tubO cells cur n salt a b c nt) :: (cells, listOf (List.toArray vs1) nc) :: (C, listOf (List.toArray cv) kc) :: R)) (hb : LSm.BoolsAre cv bs) (hl : 1 ≤ bs.length) (hi : IntsAre vs1 ns1) : ∀ z ∈ [tub, cells], @Ne Nat C z := by
  have g1 := (N _ (.head _)).1
  have g2 := (N _ (.tail _ (.head _))).1
  have g3 := (N _ (.tail _ (.tail _ (.head _)))).1
  have inj : ∀ {xs ys : List Value} {j k : Nat}, listOf xs.toArray j = listOf ys.toArray k → xs = ys := fun e => by
    have := congrArg Obj.data e
    simp only [PySem.W.listOf] at this
    injection this with e1 e2
    injection e1
  intro z hz e
  rcases List.mem_cons.mp hz with rfl | hz
  · subst e
    dsimp only at g1 g3
    rw [g1] at g3
    have := inj (Option.some.inj g3)
    subst this
    cases hb
  · rw [List.mem_singleton.mp hz] at e
    subst e
    dsimp only at g2 g3
    rw [g2] at g3
    have := inj (Option.some.inj g3)
    subst this
    cases hb with
    | nil => cases hl
    | cons b r => cases hi
theorem emptyOf {l : List Nat} (h : natI l = []) : l.isEmpty = true := by
  unfold natI at h
  rw [List.map_eq_nil_iff.mp h]; rfl
theorem emptyNo {l : List Nat} (h : ¬ natI l = []) : ¬ l.isEmpty = true := fun e => h (by rw [List.isEmpty_iff.mp e]; rfl)
theorem keptR_sub : ∀ (rs : List Row) (S : Nat → Bool), (∀ r ∈ keptR S rs, r ∈ rs) ∧ (keptR S rs).length ≤ rs.length
  | [], _ => ⟨fun _ h => h, Nat.le_refl _⟩
  | x :: rs, S => by
    have ih := keptR_sub rs (addS S x)
    unfold keptR
    split
    · exact ⟨fun r hr => .tail _ (ih.1 r hr), Nat.le_succ_of_le ih.2⟩
    · refine ⟨fun r hr => ?_, Nat.succ_le_succ ih.2⟩
      rcases List.mem_cons.mp hr with rfl | hr
      · exact .head _
      · exact .tail _ (ih.1 r hr)
theorem keptN_sub (rs : List Row) : (∀ r ∈ keptN rs rs.length, r ∈ rs) ∧ (keptN rs rs.length).length ≤ rs.length := by
  have := keptR_sub (rs.take rs.length) noS
  rw [List.take_length] at this
  unfold keptN
  rw [List.take_length]
  exact this
theorem stepsOwn {D3 tub cells : Addr} {o : Obj} {V R2 : Led} (h1 : @Ne Nat tub D3) (h2 : @Ne Nat cells D3) (hV : ApartA [tub, cells] R2 V) (hO : OwnOff R2 [tub, cells]) : OwnOff ((D3, o) :: (V ++ R2)) [tub, cells] := by
  intro p hp z hz
  rcases List.mem_cons.mp hp with rfl | hp
  · rcases List.mem_cons.mp hz with rfl | hz
    · exact h1.symm
    · rw [List.mem_singleton.mp hz]; exact h2.symm
  · rcases List.mem_append.mp hp with hp | hp
    · exact (hV.1 z hz p hp).symm
    · exact hO p hp z hz
theorem hdt : PySem.Challenge.rw_qd0068_01.Holds := by
  w_on
  refine holds_law saidG fun said => ?_
  refine holds_open (q := vw) (loose := loose) (Xt := Xt) (XP := XL vw []) (Yf := HK.obs) (Ya := HK.val) (YP := HK.says) (N := 15000) leftK HK.of HK.keeps (fun s e => xl_of s (Bool.and_eq_true_iff.mp e).1) XL.keeps (by rfl) (by kernel_rfl) (by kernel_rfl) (fun s e => recFacts_of (Bool.and_eq_true_iff.mp e).2) (by kernel_rfl) (by first | assumption | exact of_decide_eq_true (by kernel_rfl)) (of_decide_eq_true (by kernel_rfl)) ⟨rfl, rfl, rfl, rfl, rfl, by decide +kernel⟩ ?hw ?hc
  (case hw => w_witness2)
  w_strict k_go0
  rename_i w s₀ s₁ mg mb G Y fa fo pm doc ho hg KX X0 V GL T B TE TW wM oM M cA cB hcd ns hs hlay0 hLay hr1 hl2 as5 as6 sc vs as2 hL ra w1 r0 hI hr hcond hT1 K0 hD h₁ tk₁ F oR oT left right N0 XC
  clear XC hD hT1 hr r0 w1 ra as2 hl2 hr1 hLay hlay0 hs hcd M TW TE B GL V X0 Y G
  have hlen : ns.length ≤ 63 := by omega
  clear hcond
  replace left := left.trans (by rfl : _ = Data.cell none)
  replace right := right.trans (by rfl : _ = Data.cell none)
  generalize hLe : s₁.heap.objs.size = L at F N0 ⊢
  revert KX; k_fill; intro KX
  refine letA ?_
  intro A1
  have hM9 : HoldMark := ⟨⟩
  have hd9 : callerA.depth + 1 + 690 < recursionLimit := by decide +kernel
  have hu9 : callerA.units + 3 + 9000 < cLine := by decide +kernel
  have F8 := frChain F [(Str.ofString "script", .ref sc)] (List.forall_mem_cons.mpr ⟨by rfl, fun _ h => nomatch h⟩)
  clear F
  obtain ⟨m0, F⟩ := F8
  dsimp only [chainM] at F
  (with_reducible show wpAny _ _ _ _ _ _)
  k_fold
  refine cutX 1 (fun s' => ∃ tub cells salt lim oT' h tk m0 led, s' = { s₁ with heap := h, toks := tk } ∧ Fr s₁.heap L h m0 ∧ oT'.data = .cell (some (.ref tub)) ∧ @Ne Nat tub cells ∧ News s₁.heap L h led ∧ TubS tub cells salt lim [(L + 1 + 1, oR), (L + 1, oT')] led ∧ lim ≤ 10 ∧ OwnOff [(L + 1 + 1, oR), (L + 1, oT')] [tub, cells]) ?s1 ?s2
  (case s1 =>
    dsimp only [List.take]
    (try (with_reducible show wpAny _ _ _ _ _ _))
    (try k_fold)
    (repeat' (first | (k_unfold; (try dsimp only)) | walk1 | (dsimp only; walk1) | (leave1; walk_say "STEP leave1"; (try dsimp only)) | fail "no step"))
    rename News _ _ _ _ => N8
    rename Fr _ _ _ _ => F8
    rename _ = Data.cell (some (Value.ref _)) => d8
    exact CutI.mk ⟨rfl, tub9, cells9, salt9, 1, _, _, _, _, _, rfl, F8, d8, tc9, N8, ⟨0, 0, a9, b9, c9, nt9, nc9, vs9, ns9, rfl, ok9⟩, by decide, ownUpd off9 rfl⟩)
  intro r9 er9
  intro s' q9x1555
  first | (refine' ex8 (q9x1555) ?_; intro _ _ _ _ _ _ _ _ h9e; walk_at "sp 3") | (refine' ex6 (q9x1555) ?_; intro _ _ _ _ _ _ h9e; walk_at "sp 5") | (refine' ex4 (q9x1555) ?_; intro _ _ _ _ h9e; walk_at "sp 7") | (refine' ex3 (q9x1555) ?_; intro _ _ _ h9e; walk_at "sp 8") | (refine' ex2 (q9x1555) ?_; intro _ _ h9e; walk_at "sp 9") | (refine' ex1 (q9x1555) ?_; intro _ h9e; walk_at "sp 10") | (refine' and6 (q9x1555) ?_; intro _ _ _ _ _ h9e; walk_at "sp 6") | (refine' and4 (q9x1555) ?_; intro _ _ _ h9e; walk_at "sp 8") | (refine' and3 (q9x1555) ?_; intro _ _ h9e; walk_at "sp 9") | (refine' and2 (q9x1555) ?_; intro _ h9e; walk_at "sp 10") | (obtain ⟨_, _, _, _, _, _, _, _, _, _, _⟩ := q9x1555)
  rename_i tub cells salt lim oT' h tk m0' led e9x1565 r9x1566
  try (clear q9x1555)
  subst e9x1565
  first | (refine' ex6 (r9x1566) ?_; intro _ _ _ _ _ _ _ ) | (refine' ex4 (r9x1566) ?_; intro _ _ _ _ h9e; walk_at "sp 3") | (refine' ex3 (r9x1566) ?_; intro _ _ _ h9e; walk_at "sp 4") | (refine' ex2 (r9x1566) ?_; intro _ _ h9e; walk_at "sp 5") | (refine' ex1 (r9x1566) ?_; intro _ h9e; walk_at "sp 6") | (refine' and6 (r9x1566) ?_; intro _ _ _ _ _ h9e; walk_at "sp 2") | (refine' and4 (r9x1566) ?_; intro _ _ _ h9e; walk_at "sp 4") | (refine' and3 (r9x1566) ?_; intro _ _ h9e; walk_at "sp 5") | (refine' and2 (r9x1566) ?_; intro _ h9e; walk_at "sp 6") | (obtain ⟨_, _, _, _, _, _, _⟩ := r9x1566)
  rename_i F1 dT hTC N1 n9x1571 hlim hO
  try (clear r9x1566)
  first | (refine' ex8 (n9x1571) ?_; intro _ _ _ _ _ _ _ _ h9e; walk_at "sp 3") | (refine' ex6 (n9x1571) ?_; intro _ _ _ _ _ _ h9e; walk_at "sp 5") | (refine' ex4 (n9x1571) ?_; intro _ _ _ _ h9e; walk_at "sp 7") | (refine' ex3 (n9x1571) ?_; intro _ _ _ h9e; walk_at "sp 8") | (refine' ex2 (n9x1571) ?_; intro _ _ h9e; walk_at "sp 9") | (refine' ex1 (n9x1571) ?_; intro _ h9e; walk_at "sp 10") | (refine' and6 (n9x1571) ?_; intro _ _ _ _ _ h9e; walk_at "sp 6") | (refine' and4 (n9x1571) ?_; intro _ _ _ h9e; walk_at "sp 8") | (refine' and3 (n9x1571) ?_; intro _ _ h9e; walk_at "sp 9") | (refine' and2 (n9x1571) ?_; intro _ h9e; walk_at "sp 10") | (obtain ⟨_, _, _, _, _, _, _, _, _, _, _⟩ := n9x1571)
  rename_i cur n ta tb tc nt nc vs1 ns1 e9x1583 r9x1584
  try (clear n9x1571)
  subst e9x1583
  have ok1 := r9x1584; clear r9x1584
  subst er9
  clear N0 F right m0 oT hI hL hlen
  dsimp only [List.drop]
  have hCT : @Ne Nat cells tub := hTC.symm
  refine cutX 1 (fun s' => ∃ lim many spot isE tm ts h tk m0 led, s' = { s₁ with heap := h, toks := tk } ∧ 2 ≤ many ∧ many ≤ 4 ∧ spot < 7 ∧ Fr s₁.heap L h (chainM m0 [(Str.ofString "many", .int ((many : Nat) : Int) tm), (Str.ofString "spot", .int ((spot : Nat) : Int) ts), (Str.ofString "is_end", .bool isE)]) ∧ News s₁.heap L h led ∧ TubS tub cells salt lim [(L + 1 + 1, oR), (L + 1, oT')] led ∧ lim ≤ 20) ?t1 ?t2
  (case t1 =>
    dsimp only [List.take]
    (try (with_reducible show wpAny _ _ _ _ _ _))
    (try k_fold)
    (repeat' (first | (k_unfold; (try dsimp only)) | walk1 | (dsimp only; walk1) | (leave1; walk_say "STEP leave1"; (try dsimp only)) | fail "no step"))
    rename_i rA cuA tA aA bA cA ntA ncA vsA nsA hA tkA loA hiA okA _ _ rB cuB tB aB bB cB ntB ncB vsB nsB hB tkB loB hiB okB _ _ D8 h8a l8 h8b h8c h8d h8e F8 N8
    refine ⟨rfl, lim + 1 + 1 + 1, 2 + rA, rB, _, _, _, _, _, _, _, rfl, by omega, by omega, by omega, frOfR F8 _ rfl, News.drop1 N8, ⟨cur9, n + 1 + 1 + 1, a9, b9, c9, nt9, nc9, vs9, ns9, rfl, ok9⟩, by omega⟩)
  clear F1 N1 ok1
  intro r9 er9
  intro s' q9x1585
  first | (refine' ex8 (q9x1585) ?_; intro _ _ _ _ _ _ _ _ h9e; walk_at "sp 4") | (refine' ex6 (q9x1585) ?_; intro _ _ _ _ _ _ h9e; walk_at "sp 6") | (refine' ex4 (q9x1585) ?_; intro _ _ _ _ h9e; walk_at "sp 8") | (refine' ex3 (q9x1585) ?_; intro _ _ _ h9e; walk_at "sp 9") | (refine' ex2 (q9x1585) ?_; intro _ _ h9e; walk_at "sp 10") | (refine' ex1 (q9x1585) ?_; intro _ h9e; walk_at "sp 11") | (refine' and6 (q9x1585) ?_; intro _ _ _ _ _ h9e; walk_at "sp 7") | (refine' and4 (q9x1585) ?_; intro _ _ _ h9e; walk_at "sp 9") | (refine' and3 (q9x1585) ?_; intro _ _ h9e; walk_at "sp 10") | (refine' and2 (q9x1585) ?_; intro _ h9e; walk_at "sp 11") | (obtain ⟨_, _, _, _, _, _, _, _, _, _, _, _⟩ := q9x1585)
  rename_i lim many spot isE tm ts h tk m0 led e9x1596 r9x1597
  try (clear q9x1585)
  subst e9x1596
  first | (refine' ex6 (r9x1597) ?_; intro _ _ _ _ _ _ _ ) | (refine' ex4 (r9x1597) ?_; intro _ _ _ _ h9e; walk_at "sp 3") | (refine' ex3 (r9x1597) ?_; intro _ _ _ h9e; walk_at "sp 4") | (refine' ex2 (r9x1597) ?_; intro _ _ h9e; walk_at "sp 5") | (refine' ex1 (r9x1597) ?_; intro _ h9e; walk_at "sp 6") | (refine' and6 (r9x1597) ?_; intro _ _ _ _ _ h9e; walk_at "sp 2") | (refine' and4 (r9x1597) ?_; intro _ _ _ h9e; walk_at "sp 4") | (refine' and3 (r9x1597) ?_; intro _ _ h9e; walk_at "sp 5") | (refine' and2 (r9x1597) ?_; intro _ h9e; walk_at "sp 6") | (obtain ⟨_, _, _, _, _, _, _⟩ := r9x1597)
  rename_i hm2 hm4 hsp F1 N1 n9x1603 hlim
  try (clear r9x1597)
  first | (refine' ex8 (n9x1603) ?_; intro _ _ _ _ _ _ _ _ h9e; walk_at "sp 3") | (refine' ex6 (n9x1603) ?_; intro _ _ _ _ _ _ h9e; walk_at "sp 5") | (refine' ex4 (n9x1603) ?_; intro _ _ _ _ h9e; walk_at "sp 7") | (refine' ex3 (n9x1603) ?_; intro _ _ _ h9e; walk_at "sp 8") | (refine' ex2 (n9x1603) ?_; intro _ _ h9e; walk_at "sp 9") | (refine' ex1 (n9x1603) ?_; intro _ h9e; walk_at "sp 10") | (refine' and6 (n9x1603) ?_; intro _ _ _ _ _ h9e; walk_at "sp 6") | (refine' and4 (n9x1603) ?_; intro _ _ _ h9e; walk_at "sp 8") | (refine' and3 (n9x1603) ?_; intro _ _ h9e; walk_at "sp 9") | (refine' and2 (n9x1603) ?_; intro _ h9e; walk_at "sp 10") | (obtain ⟨_, _, _, _, _, _, _, _, _, _, _⟩ := n9x1603)
  rename_i cur n ta tb tc nt nc vs1 ns1 e9x1614 r9x1615
  try (clear n9x1603)
  subst e9x1614
  have ok1 := r9x1615; clear r9x1615
  subst er9
  dsimp only [chainM, List.drop] at F1 ⊢
  refine cutX 1 (fun s' => ∃ lim cl cvs ck R h tk m0 led, s' = { s₁ with heap := h, toks := tk } ∧ Fr s₁.heap L h (chainM m0 [(Str.ofString "many", .int ((many : Nat) : Int) tm), (Str.ofString "spot", .int ((spot : Nat) : Int) ts), (Str.ofString "is_end", .bool isE), (Str.ofString "conditions", .ref cl)]) ∧ News s₁.heap L h led ∧ TubS tub cells salt lim ((L + 1 + 1, oR) :: R) led ∧ lim ≤ 100 ∧
    CondsAt R cl cvs ck many ∧ (L + 1, oT') ∈ R ∧ OwnOff ((L + 1 + 1, oR) :: R) [tub, cells] ∧ ∀ p ∈ R, @Ne Nat p.1 (L + 1 + 1)) ?u1 ?u2
  (case u1 =>
    dsimp only [List.take]
    (try (with_reducible show wpAny _ _ _ _ _ _))
    (try k_fold)
    (repeat' (first | (k_unfold; (try dsimp only)) | walk1 | (dsimp only; walk1) | (leave1; walk_say "STEP leave1"; (try dsimp only)) | fail "no step"))
    refine ⟨?_⟩
    rename_i D0 hD0 lD0 FL NL hR tkR tu uu vu hr FR NR hkR
    rename @LT.lt Nat _ D0 l' ∧ _ => lL
    obtain ⟨l0, el0⟩ : ∃ x, x = l' := ⟨_, rfl⟩
    subst el0
    refine LCg.CompSrc.range (n := many - 1) (by rfl) FR NR hr (small_one (by omega) (by omega) (by omega) (by omega)) (by rw [rangeSize_one]; split <;> omega) (by rw [sizeLine_eq]; omega) ?_
    clear FL NL hkR FR NR
    intro g2
    refine compU (fun j ys nw => ∃ cur n a b c nt nc vs ns V, nw = [(l0, _), (D0, _), (tub, tubO cells cur n salt a b c nt), (cells, listOf (List.toArray vs) nc)] ++ (V ++ [(L + 1 + 1, oR), (L + 1, oT')]) ∧ ApartA [l0, D0, tub, cells] [(L + 1 + 1, oR), (L + 1, oT')] V ∧ TubOk cur n salt vs ns (lim + j) ∧ CondsV V ys j)
      ⟨cur, n, ta, tb, tc, nt, nc, vs1, ns1, [], rfl, .nil, ok1.le (by omega), ⟨rfl, fun _ h => absurd h (Nat.not_lt_zero _)⟩⟩ ?_ ?_
    · intro j ys nw hj hJ9 v I oI C oC D m₂ h tk E' hP hC2 hx F2 N2 off2 ne2
      (with_reducible show wpAny _ _ _ _ _ _)
      k_fold
      first | (refine' ex8 (hJ9) ?_; intro _ _ _ _ _ _ _ _ h9e; walk_at "sp 4") | (refine' ex6 (hJ9) ?_; intro _ _ _ _ _ _ h9e; walk_at "sp 6") | (refine' ex4 (hJ9) ?_; intro _ _ _ _ h9e; walk_at "sp 8") | (refine' ex3 (hJ9) ?_; intro _ _ _ h9e; walk_at "sp 9") | (refine' ex2 (hJ9) ?_; intro _ _ h9e; walk_at "sp 10") | (refine' ex1 (hJ9) ?_; intro _ h9e; walk_at "sp 11") | (refine' and6 (hJ9) ?_; intro _ _ _ _ _ h9e; walk_at "sp 7") | (refine' and4 (hJ9) ?_; intro _ _ _ h9e; walk_at "sp 9") | (refine' and3 (hJ9) ?_; intro _ _ h9e; walk_at "sp 10") | (refine' and2 (hJ9) ?_; intro _ h9e; walk_at "sp 11") | (obtain ⟨_, _, _, _, _, _, _, _, _, _, _, _⟩ := hJ9)
      rename_i cur2 n2 a2 b2 c2 nt2 nc2 vs2 ns2 V e9x1626 r9x1627
      try (clear hJ9)
      subst e9x1626
      obtain ⟨hV, ok2, hZ⟩ := r9x1627
      clear ok1
      obtain ⟨tv, rfl⟩ := hP
      have e9 : (1 : Int) + (j : Int) = ((1 + j : Nat) : Int) := rfl
      rw [e9] at hx
      have hoV : OwnOff (V ++ [(L + 1 + 1, oR), (L + 1, oT')]) [tub, cells] := ownVR hV (.tail _ (.tail _ (.head _))) (.tail _ (.tail _ (.tail _ (.head _)))) hO
      have e1 : @Ne Nat I tub := off2.2.2.1.1.symm
      have e2 : @Ne Nat C tub := off2.2.2.1.2.1.symm
      have e3 : @Ne Nat D tub := off2.2.2.1.2.2.symm
      have e4 : @Ne Nat I cells := off2.2.2.2.1.1.symm
      have e5 : @Ne Nat C cells := off2.2.2.2.1.2.1.symm
      have e6 : @Ne Nat D cells := off2.2.2.2.1.2.2.symm
      dsimp only [List.cons_append, List.nil_append] at N2
      (try (with_reducible show wpAny _ _ _ _ _ _))
      (try k_fold)
      (repeat' (first | (k_unfold; (try dsimp only)) | walk1 | (dsimp only; walk1) | (leave1; walk_say "STEP leave1"; (try dsimp only)) | fail "no step"))
      rename_i T hT FT NT lT
      have lq := ltN NT (List.forall_mem_cons.mpr ⟨lT.1, List.forall_mem_cons.mpr ⟨lT.2.1, List.forall_mem_cons.mpr ⟨lT.2.2.1, List.forall_mem_cons.mpr ⟨lT.2.2.2.1, List.forall_mem_cons.mpr ⟨lT.2.2.2.2.1, List.forall_mem_cons.mpr ⟨lT.2.2.2.2.2.1, List.forall_mem_cons.mpr ⟨lT.2.2.2.2.2.2.1, ktn_ltOf lT.2.2.2.2.2.2.2⟩⟩⟩⟩⟩⟩⟩)
      refine cEndN (pre := [(l0, _), (D0, _), (tub, _), (cells, _)]) (nw := [(T, _)]) FT NT lq off2 trivial ⟨cur9, _, a9, b9, c9, nt9, nc9, vs9, ns9, (T, _) :: V, rfl, apartApp (nw := [(T, _)]) hV lq ?as fun p hp => .tail _ (.tail _ (.tail _ (.tail _ (.tail _ (.tail _ (.tail _ (List.mem_append.mpr (.inr hp)))))))), ok9.le (by omega), condsSnoc hZ⟩
      exact List.forall_mem_cons.mpr ⟨⟨_, .tail _ (.tail _ (.tail _ (.head _)))⟩, List.forall_mem_cons.mpr ⟨⟨_, .tail _ (.tail _ (.tail _ (.tail _ (.head _))))⟩, List.forall_mem_cons.mpr ⟨⟨_, .tail _ (.tail _ (.tail _ (.tail _ (.tail _ (.head _)))))⟩, List.forall_mem_cons.mpr ⟨⟨_, .tail _ (.tail _ (.tail _ (.tail _ (.tail _ (.tail _ (.head _))))))⟩, fun _ h => (nomatch h)⟩⟩⟩⟩
    · skip
      intro ys nw q9x1628
      first | (refine' ex8 (q9x1628) ?_; intro _ _ _ _ _ _ _ _ h9e; walk_at "sp 4") | (refine' ex6 (q9x1628) ?_; intro _ _ _ _ _ _ h9e; walk_at "sp 6") | (refine' ex4 (q9x1628) ?_; intro _ _ _ _ h9e; walk_at "sp 8") | (refine' ex3 (q9x1628) ?_; intro _ _ _ h9e; walk_at "sp 9") | (refine' ex2 (q9x1628) ?_; intro _ _ h9e; walk_at "sp 10") | (refine' ex1 (q9x1628) ?_; intro _ h9e; walk_at "sp 11") | (refine' and6 (q9x1628) ?_; intro _ _ _ _ _ h9e; walk_at "sp 7") | (refine' and4 (q9x1628) ?_; intro _ _ _ h9e; walk_at "sp 9") | (refine' and3 (q9x1628) ?_; intro _ _ h9e; walk_at "sp 10") | (refine' and2 (q9x1628) ?_; intro _ h9e; walk_at "sp 11") | (obtain ⟨_, _, _, _, _, _, _, _, _, _, _, _⟩ := q9x1628)
      rename_i cur2 n2 a2 b2 c2 nt2 nc2 vs2 ns2 V e9x1639 r9x1640
      try (clear q9x1628)
      subst e9x1639
      obtain ⟨hV, ok2, hZ⟩ := r9x1640
      clear ok1
      unfold LCg.FinE
      intro D3 h3 tk3 F3 N3 o3
      dsimp only [List.cons_append, List.nil_append] at N3 o3 ⊢
      have hyl : ys.length < 100 := by have := hZ.1; omega
      (try (with_reducible show wpAny _ _ _ _ _ _))
      (try k_fold)
      (repeat' (first | (k_unfold; (try dsimp only)) | walk1 | (dsimp only; walk1) | (leave1; walk_say "STEP leave1"; (try dsimp only)) | fail "no step"))
      rename Fr _ _ _ _ => F8
      rename News _ _ _ _ => N8
      refine ⟨rfl, _, D', Value.ref D0 :: ys, 0, (D', listOf (Value.ref D0 :: ys).toArray 0) :: (D0, _) :: (V ++ [(L + 1, oT')]), _, _, _, _, rfl, frOfR F8 _ rfl, condsNews N8, ⟨cur2, n2, a2, b2, c2, nt2, nc2, vs2, ns2, rfl, ok2⟩, by omega, condsFin hm2 hZ, .tail _ (.tail _ (List.mem_append.mpr (.inr (.head _)))), ?_⟩
      exact condsOff hV hO l1.2.2.2 ⟨lD0.1, lD0.2.1, lD0.2.2.1⟩)
  clear F1 N1 ok1
  have fX9 : FoldX := ⟨⟩
  intro r9 er9
  intro s' q9x1641
  first | (refine' ex8 (q9x1641) ?_; intro _ _ _ _ _ _ _ _ h9e; walk_at "sp 3") | (refine' ex6 (q9x1641) ?_; intro _ _ _ _ _ _ h9e; walk_at "sp 5") | (refine' ex4 (q9x1641) ?_; intro _ _ _ _ h9e; walk_at "sp 7") | (refine' ex3 (q9x1641) ?_; intro _ _ _ h9e; walk_at "sp 8") | (refine' ex2 (q9x1641) ?_; intro _ _ h9e; walk_at "sp 9") | (refine' ex1 (q9x1641) ?_; intro _ h9e; walk_at "sp 10") | (refine' and6 (q9x1641) ?_; intro _ _ _ _ _ h9e; walk_at "sp 6") | (refine' and4 (q9x1641) ?_; intro _ _ _ h9e; walk_at "sp 8") | (refine' and3 (q9x1641) ?_; intro _ _ h9e; walk_at "sp 9") | (refine' and2 (q9x1641) ?_; intro _ h9e; walk_at "sp 10") | (obtain ⟨_, _, _, _, _, _, _, _, _, _, _⟩ := q9x1641)
  rename_i lim cl cvs ck R0 h tk m0 led e9x1651 r9x1652
  try (clear q9x1641)
  subst e9x1651
  first | (refine' ex6 (r9x1652) ?_; intro _ _ _ _ _ _ h9e; walk_at "sp 2") | (refine' ex4 (r9x1652) ?_; intro _ _ _ _ h9e; walk_at "sp 4") | (refine' ex3 (r9x1652) ?_; intro _ _ _ h9e; walk_at "sp 5") | (refine' ex2 (r9x1652) ?_; intro _ _ h9e; walk_at "sp 6") | (refine' ex1 (r9x1652) ?_; intro _ h9e; walk_at "sp 7") | (refine' and6 (r9x1652) ?_; intro _ _ _ _ _ h9e; walk_at "sp 3") | (refine' and4 (r9x1652) ?_; intro _ _ _ h9e; walk_at "sp 5") | (refine' and3 (r9x1652) ?_; intro _ _ h9e; walk_at "sp 6") | (refine' and2 (r9x1652) ?_; intro _ h9e; walk_at "sp 7") | (obtain ⟨_, _, _, _, _, _, _, _⟩ := r9x1652)
  rename_i F1 N1 n9x1655 hlim hC mT hO hR
  try (clear r9x1652)
  first | (refine' ex8 (n9x1655) ?_; intro _ _ _ _ _ _ _ _ h9e; walk_at "sp 3") | (refine' ex6 (n9x1655) ?_; intro _ _ _ _ _ _ h9e; walk_at "sp 5") | (refine' ex4 (n9x1655) ?_; intro _ _ _ _ h9e; walk_at "sp 7") | (refine' ex3 (n9x1655) ?_; intro _ _ _ h9e; walk_at "sp 8") | (refine' ex2 (n9x1655) ?_; intro _ _ h9e; walk_at "sp 9") | (refine' ex1 (n9x1655) ?_; intro _ h9e; walk_at "sp 10") | (refine' and6 (n9x1655) ?_; intro _ _ _ _ _ h9e; walk_at "sp 6") | (refine' and4 (n9x1655) ?_; intro _ _ _ h9e; walk_at "sp 8") | (refine' and3 (n9x1655) ?_; intro _ _ h9e; walk_at "sp 9") | (refine' and2 (n9x1655) ?_; intro _ h9e; walk_at "sp 10") | (obtain ⟨_, _, _, _, _, _, _, _, _, _, _⟩ := n9x1655)
  rename_i cur n ta tb tc nt nc vs1 ns1 e9x1670 r9x1671
  try (clear n9x1655)
  subst e9x1670
  have ok1 := r9x1671; clear r9x1671
  subst er9
  dsimp only [chainM, List.drop] at F1 ⊢
  refine cutX 1 (fun s' => ∃ lim D rs oR' R h tk m0 led, s' = { s₁ with heap := h, toks := tk } ∧ Fr s₁.heap L h (chainM m0 [(Str.ofString "many", .int ((many : Nat) : Int) tm), (Str.ofString "spot", .int ((spot : Nat) : Int) ts), (Str.ofString "is_end", .bool isE), (Str.ofString "conditions", .ref cl)]) ∧ News s₁.heap L h led ∧ TubS tub cells salt lim R led ∧ lim ≤ 2000 ∧
    CondsAt R cl cvs ck many ∧ (L + 1, oT') ∈ R ∧ (L + 1 + 1, oR') ∈ R ∧ oR'.data = .cell (some (.ref D)) ∧ OwnOff R [tub, cells] ∧ RowsX R D rs ∧ (∀ r ∈ rs, RowOk many r) ∧ rs.length ≤ 6) ?v1 ?v2
  (case v1 =>
    dsimp only [List.take]
    (try (with_reducible show wpAny _ _ _ _ _ _))
    (try k_fold)
    (repeat' (first | (k_unfold; (try dsimp only)) | walk1 | (dsimp only; walk1) | (leave1; walk_say "STEP leave1"; (try dsimp only)) | fail "no step"))
    rename News _ _ _ _ => N8
    rename Fr _ _ _ _ => F8
    rename _ = Data.cell (some (Value.ref _)) => d8
    refine ⟨rfl, _, D9, rs9, _, (L + 1 + 1, _) :: (nw9 ++ R0), _, _, _, _, rfl, frOfR F8 _ rfl, rulesNews2 N8, ⟨cur9, n9, a9, b9, c9, nt9, nc9, vs9, ns9, rfl, ok9⟩, by omega, hC.mono ?_, .tail _ (List.mem_append.mpr (.inr mT)), .head _, d8, rulesOwn hO off9, R9.mono ?_, rok9, rl9⟩
    · exact fun p hp => .tail _ (List.mem_append.mpr (.inr hp))
    · exact fun p hp => .tail _ (List.mem_append.mpr (.inl hp)))
  clear F1 N1 ok1 hR
  intro r9 er9
  intro s' q9x1672
  first | (refine' ex8 (q9x1672) ?_; intro _ _ _ _ _ _ _ _ h9e; walk_at "sp 3") | (refine' ex6 (q9x1672) ?_; intro _ _ _ _ _ _ h9e; walk_at "sp 5") | (refine' ex4 (q9x1672) ?_; intro _ _ _ _ h9e; walk_at "sp 7") | (refine' ex3 (q9x1672) ?_; intro _ _ _ h9e; walk_at "sp 8") | (refine' ex2 (q9x1672) ?_; intro _ _ h9e; walk_at "sp 9") | (refine' ex1 (q9x1672) ?_; intro _ h9e; walk_at "sp 10") | (refine' and6 (q9x1672) ?_; intro _ _ _ _ _ h9e; walk_at "sp 6") | (refine' and4 (q9x1672) ?_; intro _ _ _ h9e; walk_at "sp 8") | (refine' and3 (q9x1672) ?_; intro _ _ h9e; walk_at "sp 9") | (refine' and2 (q9x1672) ?_; intro _ h9e; walk_at "sp 10") | (obtain ⟨_, _, _, _, _, _, _, _, _, _, _⟩ := q9x1672)
  rename_i lim D rs oR' R h tk m0 led e9x1682 r9x1683
  try (clear q9x1672)
  subst e9x1682
  first | (refine' ex8 (r9x1683) ?_; intro _ _ _ _ _ _ _ _ h9e; walk_at "sp 4") | (refine' ex6 (r9x1683) ?_; intro _ _ _ _ _ _ h9e; walk_at "sp 6") | (refine' ex4 (r9x1683) ?_; intro _ _ _ _ h9e; walk_at "sp 8") | (refine' ex3 (r9x1683) ?_; intro _ _ _ h9e; walk_at "sp 9") | (refine' ex2 (r9x1683) ?_; intro _ _ h9e; walk_at "sp 10") | (refine' ex1 (r9x1683) ?_; intro _ h9e; walk_at "sp 11") | (refine' and6 (r9x1683) ?_; intro _ _ _ _ _ h9e; walk_at "sp 7") | (refine' and4 (r9x1683) ?_; intro _ _ _ h9e; walk_at "sp 9") | (refine' and3 (r9x1683) ?_; intro _ _ h9e; walk_at "sp 10") | (refine' and2 (r9x1683) ?_; intro _ h9e; walk_at "sp 11") | (obtain ⟨_, _, _, _, _, _, _, _, _, _, _, _⟩ := r9x1683)
  rename_i F1 N1 n9x1686 hlim hC mT mR dR hO hX hok hrl
  try (clear r9x1683)
  first | (refine' ex8 (n9x1686) ?_; intro _ _ _ _ _ _ _ _ h9e; walk_at "sp 3") | (refine' ex6 (n9x1686) ?_; intro _ _ _ _ _ _ h9e; walk_at "sp 5") | (refine' ex4 (n9x1686) ?_; intro _ _ _ _ h9e; walk_at "sp 7") | (refine' ex3 (n9x1686) ?_; intro _ _ _ h9e; walk_at "sp 8") | (refine' ex2 (n9x1686) ?_; intro _ _ h9e; walk_at "sp 9") | (refine' ex1 (n9x1686) ?_; intro _ h9e; walk_at "sp 10") | (refine' and6 (n9x1686) ?_; intro _ _ _ _ _ h9e; walk_at "sp 6") | (refine' and4 (n9x1686) ?_; intro _ _ _ h9e; walk_at "sp 8") | (refine' and3 (n9x1686) ?_; intro _ _ h9e; walk_at "sp 9") | (refine' and2 (n9x1686) ?_; intro _ h9e; walk_at "sp 10") | (obtain ⟨_, _, _, _, _, _, _, _, _, _, _⟩ := n9x1686)
  rename_i cur n ta tb tc nt nc vs1 ns1 e9x1705 r9x1706
  try (clear n9x1686)
  subst e9x1705
  have ok1 := r9x1706; clear r9x1706
  subst er9
  dsimp only [chainM, List.drop] at F1 ⊢
  have hRA : RowsAt R D rs := hX.at_
  have hm1 : 1 ≤ many := by omega
  refine cutX 3 (fun s' => ∃ C cv kc h tk m0, s' = { s₁ with heap := h, toks := tk } ∧ Fr s₁.heap L h (chainM m0 [(Str.ofString "many", .int ((many : Nat) : Int) tm), (Str.ofString "spot", .int ((spot : Nat) : Int) ts), (Str.ofString "is_end", .bool isE), (Str.ofString "conditions", .ref cl), (Str.ofString "come", .ref C)]) ∧ News s₁.heap L h ((tub, tubO cells cur n salt ta tb tc nt) :: (cells, listOf (List.toArray vs1) nc) :: (C, listOf (List.toArray cv) kc) :: R) ∧ LSm.BoolsAre cv (lawEnt rs many) ∧ OwnOff ((C, listOf (List.toArray cv) kc) :: R) [tub, cells]) ?w1 ?w2
  (case w1 =>
    dsimp only [List.take]
    (try (with_reducible show wpAny _ _ _ _ _ _))
    (try k_fold)
    (repeat' (first | (k_unfold; (try dsimp only)) | walk1 | (dsimp only; walk1) | (leave1; walk_say "STEP leave1"; (try dsimp only)) | fail "no step"))
    have N8 : News s₁.heap L h9 ((tub, tubO cells cur n salt ta tb tc nt) :: (cells, listOf (List.toArray vs1) nc) :: (C9, listOf (List.toArray cv9) kc9) :: R) := by walk_at "k_news"
    refine ⟨rfl, C9, cv9, kc9, _, _, _, rfl, frOfR (by k_asm) _ rfl, N8, bc9, List.forall_mem_cons.mpr ⟨comeOff N8 bc9 (by rw [lawEnt_len hm1]; exact hm1) ok1.isI, hO⟩⟩)
  clear F1 N1 hM9
  intro r9 er9
  intro s' q9x1707
  first | (refine' ex6 (q9x1707) ?_; intro _ _ _ _ _ _ h9e; walk_at "sp 2") | (refine' ex4 (q9x1707) ?_; intro _ _ _ _ h9e; walk_at "sp 4") | (refine' ex3 (q9x1707) ?_; intro _ _ _ h9e; walk_at "sp 5") | (refine' ex2 (q9x1707) ?_; intro _ _ h9e; walk_at "sp 6") | (refine' ex1 (q9x1707) ?_; intro _ h9e; walk_at "sp 7") | (refine' and6 (q9x1707) ?_; intro _ _ _ _ _ h9e; walk_at "sp 3") | (refine' and4 (q9x1707) ?_; intro _ _ _ h9e; walk_at "sp 5") | (refine' and3 (q9x1707) ?_; intro _ _ h9e; walk_at "sp 6") | (refine' and2 (q9x1707) ?_; intro _ h9e; walk_at "sp 7") | (obtain ⟨_, _, _, _, _, _, _, _⟩ := q9x1707)
  rename_i C cv kc h tk m0 e9x1714 r9x1715
  try (clear q9x1707)
  subst e9x1714
  first | (refine' ex3 (r9x1715) ?_; intro _ _ _ _ ) | (refine' ex2 (r9x1715) ?_; intro _ _ h9e; walk_at "sp 2") | (refine' ex1 (r9x1715) ?_; intro _ h9e; walk_at "sp 3") | (refine' and4 (r9x1715) ?_; intro _ _ _ _ ) | (refine' and3 (r9x1715) ?_; intro _ _ h9e; walk_at "sp 2") | (refine' and2 (r9x1715) ?_; intro _ h9e; walk_at "sp 3") | (obtain ⟨_, _, _, _⟩ := r9x1715)
  rename_i F1 N1 hbC hO2
  try (clear r9x1715)
  subst er9
  have hM9 : HoldMark := ⟨⟩
  dsimp only [chainM, List.drop] at F1 ⊢
  obtain ⟨R2, hR2⟩ : ∃ R2 : Led, R2 = (C, listOf (List.toArray cv) kc) :: R := ⟨_, rfl⟩
  have s2 : ∀ p ∈ R, p ∈ R2 := fun p hp => by rw [hR2]; exact .tail _ hp
  have mC : (C, listOf (List.toArray cv) kc) ∈ R2 := by rw [hR2]; exact .head _
  rw [← hR2] at N1 hO2
  replace hC := hC.mono s2
  replace mT := s2 _ mT
  replace mR := s2 _ mR
  replace hX := hX.mono s2
  replace hRA : RowsAt R2 D rs := hX.at_
  clear s2 hO hR2 R
  first | (refine' ex4 (id hX) ?_; intro _ _ _ _ _ ) | (refine' ex3 (id hX) ?_; intro _ _ _ h9e; walk_at "sp 2") | (refine' ex2 (id hX) ?_; intro _ _ h9e; walk_at "sp 3") | (refine' ex1 (id hX) ?_; intro _ h9e; walk_at "sp 4") | (refine' and4 (id hX) ?_; intro _ _ _ h9e; walk_at "sp 2") | (refine' and3 (id hX) ?_; intro _ _ h9e; walk_at "sp 3") | (refine' and2 (id hX) ?_; intro _ h9e; walk_at "sp 4") | (obtain ⟨_, _, _, _, _⟩ := id hX)
  rename_i rvs rk hmr hrows hrvl
  have hrvz : rvs.length = rs.length := hrows.length
  refine cutX 1 (fun s' => ∃ K kv kk h tk m0, s' = { s₁ with heap := h, toks := tk } ∧ Fr s₁.heap L h (chainM m0 [(Str.ofString "many", .int ((many : Nat) : Int) tm), (Str.ofString "spot", .int ((spot : Nat) : Int) ts), (Str.ofString "is_end", .bool isE), (Str.ofString "conditions", .ref cl), (Str.ofString "come", .ref C), (Str.ofString "kept", .ref K)]) ∧ News s₁.heap L h ((tub, tubO cells cur n salt ta tb tc nt) :: (cells, listOf (List.toArray vs1) nc) :: (K, listOf (List.toArray kv) kk) :: R2) ∧ All2 (RowX R2) kv (keptN rs rs.length)) ?x1 ?x2
  (case x1 =>
    dsimp only [List.take]
    (try (with_reducible show wpAny _ _ _ _ _ _))
    (try k_fold)
    (repeat' (first | (k_unfold; (try dsimp only)) | walk1 | (dsimp only; walk1) | (leave1; walk_say "STEP leave1"; (try dsimp only)) | fail "no step"))
    refine ⟨?_⟩
    rename_i hR9 tkR tu uu vu hr FR NR hkR
    refine LCt.CompSrcT.range (n := rs.length) (by rfl) FR NR hr (small_one (by omega) (by omega) (by omega) (by omega)) (by rw [rangeSize_one]; split <;> omega) (by rw [sizeLine_eq]; omega) ?_
    clear hkR FR NR
    intro g2
    refine compTr (fun i ys => All2 (RowX R2) ys (keptN rs i)) .nil ?_ ?_
    · intro i ys hi hI v I oI Cx oC D5 m₂ h tk E' hP hC2 hx F2 N2 off2 ne2
      (with_reducible show wpAny _ _ _ _ _ _)
      k_fold
      obtain ⟨tv, rfl⟩ := hP
      rw [Int.zero_add] at hx
      obtain ⟨v, hv⟩ : ∃ v, rvs[i]? = some v := ⟨rvs[i]'(by omega), by simp⟩
      obtain ⟨r, hr2, hrx⟩ := hrows.get hv
      (try (with_reducible show wpAny _ _ _ _ _ _))
      (try k_fold)
      (repeat' (first | (k_unfold; (try dsimp only)) | walk1 | (dsimp only; walk1) | (leave1; walk_say "STEP leave1"; (try dsimp only)) | fail "no step"))
      · rename_i q9
        refine' LCg.CompEnd.intro ?F ?N _ ?sub off2 ?S ⟨rfl, ?I⟩
        (case F => k_asm)
        (case N => k_asm)
        (case sub => exact fun _ h => .tail _ (.tail _ h))
        (case S => trivial)
        (case I => (rw [keptN_succ hr2, if_pos (emptyOf (by simpa using q9)), List.append_nil]; exact hI))
      · rename_i q9
        refine' LCg.CompEnd.intro ?F ?N _ ?sub off2 ?S ⟨rfl, ?I⟩
        (case F => k_asm)
        (case N => k_asm)
        (case sub => exact fun _ h => .tail _ (.tail _ h))
        (case S => trivial)
        (case I => (rw [keptN_succ hr2, if_neg (emptyNo (by simpa using q9))]; exact hI.append (.cons hrx .nil)))
    · intro ys hI
      unfold LCg.FinA
      intro D3 h3 tk3 F3 N3 o3
      dsimp only
      (try (with_reducible show wpAny _ _ _ _ _ _))
      (try k_fold)
      (repeat' (first | (k_unfold; (try dsimp only)) | walk1 | (dsimp only; walk1) | (leave1; walk_say "STEP leave1"; (try dsimp only)) | fail "no step"))
      rename News _ _ _ _ => N8
      exact ⟨rfl, D3, ys, ys.length, _, _, _, rfl, frOfR (by k_asm) _ rfl, newsSub N8 (List.forall_mem_cons.mpr ⟨.tail _ (.head _), List.forall_mem_cons.mpr ⟨.tail _ (.tail _ (.head _)), List.forall_mem_cons.mpr ⟨.head _, fun p hp => .tail _ (.tail _ (.tail _ hp))⟩⟩⟩), hI⟩)
  clear F1 N1
  intro r9 er9
  intro s' q9x1725
  first | (refine' ex6 (q9x1725) ?_; intro _ _ _ _ _ _ h9e; walk_at "sp 2") | (refine' ex4 (q9x1725) ?_; intro _ _ _ _ h9e; walk_at "sp 4") | (refine' ex3 (q9x1725) ?_; intro _ _ _ h9e; walk_at "sp 5") | (refine' ex2 (q9x1725) ?_; intro _ _ h9e; walk_at "sp 6") | (refine' ex1 (q9x1725) ?_; intro _ h9e; walk_at "sp 7") | (refine' and6 (q9x1725) ?_; intro _ _ _ _ _ h9e; walk_at "sp 3") | (refine' and4 (q9x1725) ?_; intro _ _ _ h9e; walk_at "sp 5") | (refine' and3 (q9x1725) ?_; intro _ _ h9e; walk_at "sp 6") | (refine' and2 (q9x1725) ?_; intro _ h9e; walk_at "sp 7") | (obtain ⟨_, _, _, _, _, _, _, _⟩ := q9x1725)
  rename_i K kv kk h tk m0 e9x1732 r9x1733
  try (clear q9x1725)
  subst e9x1732
  obtain ⟨F1, N1, hK⟩ := r9x1733
  subst er9
  dsimp only [chainM, List.drop] at F1 ⊢
  have hkl := hK.length
  have hks := keptN_sub rs
  have hokK : ∀ r ∈ keptN rs rs.length, RowOk many r := fun r hr => hok r (hks.1 r hr)
  have hk9 : lawEnt (keptN rs rs.length) many = lawEnt rs many := keptN_ent hok hokK hm1
  have hXK : RowsX ((K, listOf (List.toArray kv) kk) :: R2) K (keptN rs rs.length) := ⟨kv, kk, .head _, hK.imp fun _ _ => RowX.mono fun _ hp => .tail _ hp, by omega⟩
  have hCK : CondsAt ((K, listOf (List.toArray kv) kk) :: R2) cl cvs ck many := hC.mono fun _ hp => .tail _ hp
  refine cutX 1 (fun s' => ∃ h tk m0, s' = { s₁ with heap := h, toks := tk } ∧ Fr s₁.heap L h (chainM m0 [(Str.ofString "many", .int ((many : Nat) : Int) tm), (Str.ofString "spot", .int ((spot : Nat) : Int) ts), (Str.ofString "is_end", .bool isE), (Str.ofString "conditions", .ref cl), (Str.ofString "come", .ref C)]) ∧ News s₁.heap L h ((tub, tubO cells cur n salt ta tb tc nt) :: (cells, listOf (List.toArray vs1) nc) :: R2)) ?y1 ?y2
  (case y1 =>
    dsimp only [List.take]
    (try (with_reducible show wpAny _ _ _ _ _ _))
    (try k_fold)
    (repeat' (first | (k_unfold; (try dsimp only)) | walk1 | (dsimp only; walk1) | (leave1; walk_say "STEP leave1"; (try dsimp only)) | fail "no step"))
    rename News _ _ _ _ => N8
    refine ⟨rfl, _, _, _, rfl, frOfR (by k_asm) _ rfl, ?_⟩
    walk_at "k_news")
  clear F1 N1 hXK hCK hk9 hokK hK
  intro r9 er9
  intro s' q9x1734
  first | (refine' ex4 (q9x1734) ?_; intro _ _ _ _ _ ) | (refine' ex3 (q9x1734) ?_; intro _ _ _ h9e; walk_at "sp 2") | (refine' ex2 (q9x1734) ?_; intro _ _ h9e; walk_at "sp 3") | (refine' ex1 (q9x1734) ?_; intro _ h9e; walk_at "sp 4") | (refine' and4 (q9x1734) ?_; intro _ _ _ h9e; walk_at "sp 2") | (refine' and3 (q9x1734) ?_; intro _ _ h9e; walk_at "sp 3") | (refine' and2 (q9x1734) ?_; intro _ h9e; walk_at "sp 4") | (obtain ⟨_, _, _, _, _⟩ := q9x1734)
  rename_i h tk m0 e9x1738 r9x1739
  try (clear q9x1734)
  subst e9x1738
  obtain ⟨F1, N1⟩ := r9x1739
  subst er9
  dsimp only [chainM, List.drop] at F1 ⊢
  have hbg : Str.ofString "begin" = Str.ofString "begin" ∨ Str.ofString "begin" = Str.ofString "push" := .inl rfl
  refine cutX 1 (fun s' => ∃ st R3 h tk m0, s' = { s₁ with heap := h, toks := tk } ∧ Fr s₁.heap L h (chainM m0 [(Str.ofString "many", .int ((many : Nat) : Int) tm), (Str.ofString "spot", .int ((spot : Nat) : Int) ts), (Str.ofString "is_end", .bool isE), (Str.ofString "conditions", .ref cl), (Str.ofString "come", .ref C), (Str.ofString "steps", .ref st)]) ∧ News s₁.heap L h ((tub, tubO cells cur n salt ta tb tc nt) :: (cells, listOf (List.toArray vs1) nc) :: R3) ∧ (∀ p ∈ R2, p ∈ R3) ∧ OwnOff R3 [tub, cells] ∧ StepsAt R3 (.ref st) (List.range many)) ?z1 ?z2
  (case z1 =>
    dsimp only [List.take]
    (try (with_reducible show wpAny _ _ _ _ _ _))
    (try k_fold)
    (repeat' (first | (k_unfold; (try dsimp only)) | walk1 | (dsimp only; walk1) | (leave1; walk_say "STEP leave1"; (try dsimp only)) | fail "no step"))
    refine ⟨?_⟩
    rename_i hR9 tkR tu uu vu hr FR NR hkR
    refine LCg.CompSrc.range (n := many) (by rfl) FR NR hr (small_one (by omega) (by omega) (by omega) (by omega)) (by rw [rangeSize_one]; split <;> omega) (by rw [sizeLine_eq]; omega) ?_
    clear hkR FR NR
    intro g2
    refine compU (fun j ys nw => ∃ V, nw = [(tub, tubO cells cur n salt ta tb tc nt), (cells, listOf (List.toArray vs1) nc)] ++ (V ++ R2) ∧ ApartA [tub, cells] R2 V ∧ All2 (StepAt V) ys (((List.range many).take j).map some)) ⟨[], rfl, .nil, .nil⟩ ?_ ?_
    · intro j ys nw hj hJ9 v I oI Cx oC D5 m₂ h tk E' hP hC2 hx F2 N2 off2 ne2
      (with_reducible show wpAny _ _ _ _ _ _)
      k_fold
      first | (refine' ex2 (hJ9) ?_; intro _ _ _ ) | (refine' ex1 (hJ9) ?_; intro _ h9e; walk_at "sp 2") | (refine' and3 (hJ9) ?_; intro _ _ _ ) | (refine' and2 (hJ9) ?_; intro _ h9e; walk_at "sp 2") | (obtain ⟨_, _, _⟩ := hJ9)
      rename_i V e9x1741 r9x1742
      try (clear hJ9)
      subst e9x1741
      obtain ⟨hV, hZ⟩ := r9x1742
      obtain ⟨tv, rfl⟩ := hP
      rw [Int.zero_add] at hx
      dsimp only [List.cons_append, List.nil_append] at N2
      (try (with_reducible show wpAny _ _ _ _ _ _))
      (try k_fold)
      (repeat' (first | (k_unfold; (try dsimp only)) | walk1 | (dsimp only; walk1) | (leave1; walk_say "STEP leave1"; (try dsimp only)) | fail "no step"))
      refine cEndN (pre := [(tub, _), (cells, _)]) F9 N9 l9 off2 trivial ⟨nw9 ++ V, rfl, apartApp hV l9 ?as fun p hp => .tail _ (.tail _ (.tail _ (.tail _ (.tail _ (List.mem_append.mpr (.inr hp)))))), stepsSnoc hZ (List.getElem?_range hj) o9⟩
      exact List.forall_mem_cons.mpr ⟨⟨_, .tail _ (.tail _ (.tail _ (.head _)))⟩, List.forall_mem_cons.mpr ⟨⟨_, .tail _ (.tail _ (.tail _ (.tail _ (.head _))))⟩, fun _ h => (nomatch h)⟩⟩
    · skip
      intro ys nw q9x1743
      first | (refine' ex2 (q9x1743) ?_; intro _ _ _ ) | (refine' ex1 (q9x1743) ?_; intro _ h9e; walk_at "sp 2") | (refine' and3 (q9x1743) ?_; intro _ _ _ ) | (refine' and2 (q9x1743) ?_; intro _ h9e; walk_at "sp 2") | (obtain ⟨_, _, _⟩ := q9x1743)
      rename_i V e9x1745 r9x1746
      try (clear q9x1743)
      subst e9x1745
      obtain ⟨hV, hZ⟩ := r9x1746
      unfold LCg.FinA
      intro D3 h3 tk3 F3 N3 o3
      dsimp only [List.cons_append, List.nil_append] at N3 o3 ⊢
      (try (with_reducible show wpAny _ _ _ _ _ _))
      (try k_fold)
      (repeat' (first | (k_unfold; (try dsimp only)) | walk1 | (dsimp only; walk1) | (leave1; walk_say "STEP leave1"; (try dsimp only)) | fail "no step"))
      rename News _ _ _ _ => N8
      rw [List.take_of_length_le (by simp)] at hZ
      have hyl := hZ.length
      rw [List.length_map, List.length_range] at hyl
      refine ⟨rfl, D3, (D3, LCg.lst ys) :: (V ++ R2), _, _, _, rfl, frOfR (by k_asm) _ rfl, newsSub N8 (List.forall_mem_cons.mpr ⟨.tail _ (.head _), List.forall_mem_cons.mpr ⟨.tail _ (.tail _ (.head _)), List.forall_mem_cons.mpr ⟨.head _, fun p hp => .tail _ (.tail _ (.tail _ hp))⟩⟩⟩), fun p hp => .tail _ (List.mem_append.mpr (.inr hp)), ?_, ?_⟩
      · exact stepsOwn o3.1 o3.2.1 hV hO2
      · exact ⟨D3, ys, _, _, rfl, .head _, hZ.imp fun _ _ => StepAt.mono fun p hp => .tail _ (List.mem_append.mpr (.inl hp)), by simp [List.filterMap_map], by omega⟩)
  clear F1 N1 hO2
  intro r9 er9
  intro s' q9x1747
  first | (refine' ex6 (q9x1747) ?_; intro _ _ _ _ _ _ _ ) | (refine' ex4 (q9x1747) ?_; intro _ _ _ _ h9e; walk_at "sp 3") | (refine' ex3 (q9x1747) ?_; intro _ _ _ h9e; walk_at "sp 4") | (refine' ex2 (q9x1747) ?_; intro _ _ h9e; walk_at "sp 5") | (refine' ex1 (q9x1747) ?_; intro _ h9e; walk_at "sp 6") | (refine' and6 (q9x1747) ?_; intro _ _ _ _ _ h9e; walk_at "sp 2") | (refine' and4 (q9x1747) ?_; intro _ _ _ h9e; walk_at "sp 4") | (refine' and3 (q9x1747) ?_; intro _ _ h9e; walk_at "sp 5") | (refine' and2 (q9x1747) ?_; intro _ h9e; walk_at "sp 6") | (obtain ⟨_, _, _, _, _, _, _⟩ := q9x1747)
  rename_i st R3 h tk m0 e9x1753 r9x1754
  try (clear q9x1747)
  subst e9x1753
  first | (refine' ex4 (r9x1754) ?_; intro _ _ _ _ _ ) | (refine' ex3 (r9x1754) ?_; intro _ _ _ h9e; walk_at "sp 2") | (refine' ex2 (r9x1754) ?_; intro _ _ h9e; walk_at "sp 3") | (refine' ex1 (r9x1754) ?_; intro _ h9e; walk_at "sp 4") | (refine' and4 (r9x1754) ?_; intro _ _ _ h9e; walk_at "sp 2") | (refine' and3 (r9x1754) ?_; intro _ _ h9e; walk_at "sp 3") | (refine' and2 (r9x1754) ?_; intro _ h9e; walk_at "sp 4") | (obtain ⟨_, _, _, _, _⟩ := r9x1754)
  rename_i F1 N1 s3 hO3 hSt
  try (clear r9x1754)
  subst er9
  dsimp only [chainM, List.drop] at F1 ⊢
  replace hC := hC.mono s3
  replace mT := s3 _ mT
  replace mR := s3 _ mR
  replace mC := s3 _ mC
  replace hX := hX.mono s3
  replace hRA : RowsAt R3 D rs := hX.at_
  replace hmr := s3 _ hmr
  replace hrows : All2 (RowX R3) rvs rs := hrows.imp fun _ _ => RowX.mono s3
  clear s3
  refine cutX 1 (fun s' => ∃ en ev ke h tk m0, s' = { s₁ with heap := h, toks := tk } ∧ Fr s₁.heap L h (chainM m0 [(Str.ofString "many", .int ((many : Nat) : Int) tm), (Str.ofString "spot", .int ((spot : Nat) : Int) ts), (Str.ofString "is_end", .bool isE), (Str.ofString "conditions", .ref cl), (Str.ofString "come", .ref C), (Str.ofString "steps", .ref st), (Str.ofString "ended", .ref en)]) ∧ News s₁.heap L h ((tub, tubO cells cur n salt ta tb tc nt) :: (cells, listOf (List.toArray vs1) nc) :: (en, listOf (List.toArray ev) ke) :: R3) ∧ OwnOff ((en, listOf (List.toArray ev) ke) :: R3) [tub, cells] ∧ IntsAre ev (natI ((List.range many).filter fun p => !isFirst rs rs.length p))) ?q1 ?q2
  (case q1 =>
    dsimp only [List.take]
    (try (with_reducible show wpAny _ _ _ _ _ _))
    (try k_fold)
    (repeat' (first | (k_unfold; (try dsimp only)) | walk1 | (dsimp only; walk1) | (leave1; walk_say "STEP leave1"; (try dsimp only)) | fail "no step"))
    refine ⟨?_⟩
    rename_i hR9 tkR tu uu vu hr FR NR hkR
    refine LCt.CompSrcT.range (n := many) (by rfl) FR NR hr (small_one (by omega) (by omega) (by omega) (by omega)) (by rw [rangeSize_one]; split <;> omega) (by rw [sizeLine_eq]; omega) ?_
    clear hkR FR NR
    intro g2
    refine compTr (fun j ys => IntsAre ys (natI (((List.range many).take j).filter fun p => !isFirst rs rs.length p))) .nil ?_ ?_
    · intro j ys hj hI v I oI Cx oC D5 m₂ h tk E' hP hC2 hx F2 N2 off2 ne2
      (with_reducible show wpAny _ _ _ _ _ _)
      k_fold
      obtain ⟨tv, rfl⟩ := hP
      rw [Int.zero_add] at hx
      (try (with_reducible show wpAny _ _ _ _ _ _))
      (try k_fold)
      (repeat' (first | (k_unfold; (try dsimp only)) | walk1 | (dsimp only; walk1) | (leave1; walk_say "STEP leave1"; (try dsimp only)) | fail "no step"))
      all_goals (
        rename_i q9
        refine' LCg.CompEnd.intro ?F ?N _ ?sub off2 ?S ⟨rfl, ?I⟩
        (case F => k_asm)
        (case N => k_asm)
        (case sub => exact fun _ h => h)
        (case S => trivial)
        (case I => (have q8 := done_filter (t := tv) (f := fun p => !isFirst rs rs.length p) (List.getElem?_range hj) hI; first | exact q8.1 (by simpa using q9) | exact q8.2 (by simpa using q9))))
    · intro ys hI
      unfold LCg.FinA
      intro D3 h3 tk3 F3 N3 o3
      dsimp only
      (try (with_reducible show wpAny _ _ _ _ _ _))
      (try k_fold)
      (repeat' (first | (k_unfold; (try dsimp only)) | walk1 | (dsimp only; walk1) | (leave1; walk_say "STEP leave1"; (try dsimp only)) | fail "no step"))
      rename News _ _ _ _ => N8
      rw [List.take_of_length_le (by simp)] at hI
      exact ⟨rfl, D3, ys, ys.length, _, _, _, rfl, frOfR (by k_asm) _ rfl, newsSub N8 (List.forall_mem_cons.mpr ⟨.tail _ (.head _), List.forall_mem_cons.mpr ⟨.tail _ (.tail _ (.head _)), List.forall_mem_cons.mpr ⟨.head _, fun p hp => .tail _ (.tail _ (.tail _ hp))⟩⟩⟩), stepsOwn (V := []) o3.1 o3.2.1 .nil hO3, hI⟩)
  clear F1 N1 hO3
  intro r9 er9
  intro s' q9x1760
  first | (refine' ex6 (q9x1760) ?_; intro _ _ _ _ _ _ h9e; walk_at "sp 2") | (refine' ex4 (q9x1760) ?_; intro _ _ _ _ h9e; walk_at "sp 4") | (refine' ex3 (q9x1760) ?_; intro _ _ _ h9e; walk_at "sp 5") | (refine' ex2 (q9x1760) ?_; intro _ _ h9e; walk_at "sp 6") | (refine' ex1 (q9x1760) ?_; intro _ h9e; walk_at "sp 7") | (refine' and6 (q9x1760) ?_; intro _ _ _ _ _ h9e; walk_at "sp 3") | (refine' and4 (q9x1760) ?_; intro _ _ _ h9e; walk_at "sp 5") | (refine' and3 (q9x1760) ?_; intro _ _ h9e; walk_at "sp 6") | (refine' and2 (q9x1760) ?_; intro _ h9e; walk_at "sp 7") | (obtain ⟨_, _, _, _, _, _, _, _⟩ := q9x1760)
  rename_i en ev ke h tk m0 e9x1767 r9x1768
  try (clear q9x1760)
  subst e9x1767
  first | (refine' ex3 (r9x1768) ?_; intro _ _ _ _ ) | (refine' ex2 (r9x1768) ?_; intro _ _ h9e; walk_at "sp 2") | (refine' ex1 (r9x1768) ?_; intro _ h9e; walk_at "sp 3") | (refine' and4 (r9x1768) ?_; intro _ _ _ _ ) | (refine' and3 (r9x1768) ?_; intro _ _ h9e; walk_at "sp 2") | (refine' and2 (r9x1768) ?_; intro _ h9e; walk_at "sp 3") | (obtain ⟨_, _, _, _⟩ := r9x1768)
  rename_i F1 N1 hO4 hEn
  try (clear r9x1768)
  subst er9
  dsimp only [chainM, List.drop] at F1 ⊢
  have htc : @Ne Nat tub cells := hTC
  have hevl := filLen hEn
  refine cutX 1 (fun s' => ∃ Dm rs4 R4 h tk m0, s' = { s₁ with heap := h, toks := tk } ∧ Fr s₁.heap L h (chainM m0 [(Str.ofString "conditions", .ref cl), (Str.ofString "come", .ref C), (Str.ofString "more", .ref Dm)]) ∧ News s₁.heap L h R4 ∧ CondsAt R4 cl cvs ck many ∧ (C, listOf (List.toArray cv) kc) ∈ R4 ∧ RowsX R4 Dm rs4 ∧ (∀ r ∈ rs4, RowOk many r) ∧ lawEnt rs4 many = lawEnt rs many) ?p1 ?p2
  (case p1 =>
    dsimp only [List.take]
    refine ifX (fun _ s' => ∃ h tk m0, s' = { s₁ with heap := h, toks := tk } ∧ Fr s₁.heap L h (chainM m0 [(Str.ofString "many", .int ((many : Nat) : Int) tm), (Str.ofString "spot", .int ((spot : Nat) : Int) ts), (Str.ofString "conditions", .ref cl), (Str.ofString "come", .ref C), (Str.ofString "steps", .ref st), (Str.ofString "ended", .ref en)]) ∧ News s₁.heap L h ((tub, tubO cells cur n salt ta tb tc nt) :: (cells, listOf (List.toArray vs1) nc) :: (en, listOf (List.toArray ev) ke) :: R3)) ?i1 ?i2 ?i3
    (case i1 =>
      cases isE with
      | true =>
        (try (with_reducible show wpAny _ _ _ _ _ _))
        (try k_fold)
        (repeat' (first | (k_unfold; (try dsimp only)) | walk1 | (dsimp only; walk1) | (leave1; walk_say "STEP leave1"; (try dsimp only)) | fail "no step"))
        all_goals (
          rename News _ _ _ _ => N8
          refine ⟨_, _, _, rfl, frOfR (by k_asm) _ rfl, ?_⟩
          walk_at "k_news")
      | false =>
        (try (with_reducible show wpAny _ _ _ _ _ _))
        (try k_fold)
        (repeat' (first | (k_unfold; (try dsimp only)) | walk1 | (dsimp only; walk1) | (leave1; walk_say "STEP leave1"; (try dsimp only)) | fail "no step"))
        all_goals (
          rename News _ _ _ _ => N8
          refine ⟨_, _, _, rfl, frOfR (by k_asm) _ rfl, ?_⟩
          walk_at "k_news"))
    (case i2 =>
      clear F1 N1
      intro s' q9x1773
      first | (refine' ex4 (q9x1773) ?_; intro _ _ _ _ _ ) | (refine' ex3 (q9x1773) ?_; intro _ _ _ h9e; walk_at "sp 2") | (refine' ex2 (q9x1773) ?_; intro _ _ h9e; walk_at "sp 3") | (refine' ex1 (q9x1773) ?_; intro _ h9e; walk_at "sp 4") | (refine' and4 (q9x1773) ?_; intro _ _ _ h9e; walk_at "sp 2") | (refine' and3 (q9x1773) ?_; intro _ _ h9e; walk_at "sp 3") | (refine' and2 (q9x1773) ?_; intro _ h9e; walk_at "sp 4") | (obtain ⟨_, _, _, _, _⟩ := q9x1773)
      rename_i h tk m0 e9x1777 r9x1778
      try (clear q9x1773)
      subst e9x1777
      obtain ⟨F1, N1⟩ := r9x1778
      dsimp only [chainM] at F1
      (try (with_reducible show wpAny _ _ _ _ _ _))
      (try k_fold)
      (repeat' (first | (k_unfold; (try dsimp only)) | walk1 | (dsimp only; walk1) | (leave1; walk_say "STEP leave1"; (try dsimp only)) | fail "no step"))
      rename News _ _ _ _ => N8
      rename IntsAre ev _ => hEn
      have hul := intsLen is8
      refine CutI.mk ⟨rfl, _, rs ++ [_], _, _, _, _, rfl, frOfR (by k_asm) _ rfl, N8, hC.mono tail8, tail8 _ mC, ⟨_, _, .head _, (hrows.imp fun _ _ => RowX.mono tail8).append (.cons (rowX_new (srt := .endS) (.tail _ (.tail _ (.head _))) (.tail _ (.tail _ (.tail _ (.tail _ (.head _))))) hEn (by omega) (.tail _ (.tail _ (.tail _ (.head _)))) is8 (by omega) rfl (hSt.mono tail8)) .nil), ?_⟩, (endRow hok hm1).1, (endRow hok hm1).2⟩
      rw [List.length_append]
      simp only [List.length_cons, List.length_nil]
      omega)
    (case i3 =>
      clear F1 N1
      intro s' q9x1779
      first | (refine' ex4 (q9x1779) ?_; intro _ _ _ _ _ ) | (refine' ex3 (q9x1779) ?_; intro _ _ _ h9e; walk_at "sp 2") | (refine' ex2 (q9x1779) ?_; intro _ _ h9e; walk_at "sp 3") | (refine' ex1 (q9x1779) ?_; intro _ h9e; walk_at "sp 4") | (refine' and4 (q9x1779) ?_; intro _ _ _ h9e; walk_at "sp 2") | (refine' and3 (q9x1779) ?_; intro _ _ h9e; walk_at "sp 3") | (refine' and2 (q9x1779) ?_; intro _ h9e; walk_at "sp 4") | (obtain ⟨_, _, _, _, _⟩ := q9x1779)
      rename_i h tk m0 e9x1783 r9x1784
      try (clear q9x1779)
      subst e9x1783
      obtain ⟨F1, N1⟩ := r9x1784
      dsimp only [chainM] at F1
      (try (with_reducible show wpAny _ _ _ _ _ _))
      (try k_fold)
      (repeat' (first | (k_unfold; (try dsimp only)) | walk1 | (dsimp only; walk1) | (leave1; walk_say "STEP leave1"; (try dsimp only)) | fail "no step"))
      rename News _ _ _ _ => N8
      refine CutI.mk ⟨rfl, _, (rs.take at9 ++ [⟨.bad, List.range many, List.range many⟩]) ++ rs.drop at9, _, _, _, _, rfl, frOfR (by k_asm) _ rfl, N8, hC.mono (tail11 s5), tail11 s5 _ mC, ⟨_, _, .head _, (((hrows.imp fun _ _ => RowX.mono (tail11 s5)).take at9).append (.cons (rowX_new (srt := .bad) (.tail _ (.tail _ (.tail _ (.tail _ (.head _))))) (.tail _ (.tail _ (.tail _ (.tail _ (.tail _ (.tail _ (.tail _ (.tail _ (.head _))))))))) (by assumption) (intsLt (by assumption) hm4) (.tail _ (.tail _ (.tail _ (.tail _ (.tail _ (.head _)))))) (by assumption) (intsLt (by assumption) hm4) (PatAt.mono (tail11 n5) o9) (hSt.mono (tail11 s5))) .nil)).append ((hrows.imp fun _ _ => RowX.mono (tail11 s5)).drop at9), moreLen _ (by omega)⟩, (badRow at9 hok hm1).1, (badRow at9 hok hm1).2⟩))
  (case p2 =>
    clear F1 N1 hX hok hC mC mT mR hmr hrows hO4 hEn hSt hRA ok1 hbg hks hkl hevl hrvz hrvl
    intro r9 er9
    intro s' q9x1785
    first | (refine' ex6 (q9x1785) ?_; intro _ _ _ _ _ _ h9e; walk_at "sp 2") | (refine' ex4 (q9x1785) ?_; intro _ _ _ _ h9e; walk_at "sp 4") | (refine' ex3 (q9x1785) ?_; intro _ _ _ h9e; walk_at "sp 5") | (refine' ex2 (q9x1785) ?_; intro _ _ h9e; walk_at "sp 6") | (refine' ex1 (q9x1785) ?_; intro _ h9e; walk_at "sp 7") | (refine' and6 (q9x1785) ?_; intro _ _ _ _ _ h9e; walk_at "sp 3") | (refine' and4 (q9x1785) ?_; intro _ _ _ h9e; walk_at "sp 5") | (refine' and3 (q9x1785) ?_; intro _ _ h9e; walk_at "sp 6") | (refine' and2 (q9x1785) ?_; intro _ h9e; walk_at "sp 7") | (obtain ⟨_, _, _, _, _, _, _, _⟩ := q9x1785)
    rename_i Dm rs4 R4 h tk m0 e9x1792 r9x1793
    try (clear q9x1785)
    subst e9x1792
    first | (refine' ex6 (r9x1793) ?_; intro _ _ _ _ _ _ _ ) | (refine' ex4 (r9x1793) ?_; intro _ _ _ _ h9e; walk_at "sp 3") | (refine' ex3 (r9x1793) ?_; intro _ _ _ h9e; walk_at "sp 4") | (refine' ex2 (r9x1793) ?_; intro _ _ h9e; walk_at "sp 5") | (refine' ex1 (r9x1793) ?_; intro _ h9e; walk_at "sp 6") | (refine' and6 (r9x1793) ?_; intro _ _ _ _ _ h9e; walk_at "sp 2") | (refine' and4 (r9x1793) ?_; intro _ _ _ h9e; walk_at "sp 4") | (refine' and3 (r9x1793) ?_; intro _ _ h9e; walk_at "sp 5") | (refine' and2 (r9x1793) ?_; intro _ h9e; walk_at "sp 6") | (obtain ⟨_, _, _, _, _, _, _⟩ := r9x1793)
    rename_i F1 N1 hC mC hX hok4 hk9
    try (clear r9x1793)
    subst er9
    dsimp only [chainM, List.drop] at F1 ⊢
    have hRA := hX.at_
    (try (with_reducible show wpAny _ _ _ _ _ _))
    (try k_fold)
    (repeat' (first | (k_unfold; (try dsimp only)) | walk1 | (dsimp only; walk1) | (leave1; walk_say "STEP leave1"; (try dsimp only)) | fail "no step"))
    exact ⟨.inl ⟨_, .bool true, [], rfl, fun _ => rfl, .bool true, postL _ _, fun _ => ⟨.nil, fun _ h => nomatch h⟩⟩, Fr.keep (by assumption), rfl, hg⟩)


end Mine
theorem PySem.Challenge.cw_qd0068_01_holds : PySem.Challenge.rw_qd0068_01.Holds :=
  Mine.hdt

import PyProof.Rows.All
import Wide.All
import OpenK.AllK
import Wide.FinOn
import Lean
import PySem.Challenge.RW_pq0636_01
set_option Elab.async false
set_option rowWalk.seconds 0
set_option compiler.extract_closed false
namespace Mine
theorem flush_1 : True := by
  w_top off
  first | walk1 | trivial
section
open PySem PySem.W PyProof.Rows
set_option Elab.async false
set_option maxRecDepth 100000
set_option maxHeartbeats 0
abbrev P0 : Program := PySem.Challenge.pw_pq0636_01
noncomputable section
def body0 : List Stmt := behindTheImports P0
def env0 : Env := { scope := P0.main.scope, locals := mainNs, globals := mainNs, cells := [], code := .ref 13, frame := some 14 }
def cE : Code := .body (behindTheImports P0) env0
def B0 : List Frame := [topFrame default]
def S0 (w : World) (os : OsState) : Shared := ⟨boot_heap w.params, Array.mk [], boot_drawn, boot_toks, os⟩
abbrev segRunF := PySem.W.Fast.tw10110043849684766642
abbrev treeTableF := PySem.W.Fast.tw14364793385576792824
abbrev topGoF := PySem.W.Fast.tw15667345088766844465
abbrev topRunF := PySem.W.Fast.tw14082659384304107361
abbrev segRunPF := PySem.W.Fast.tw14374325043358763698
abbrev blockF := PySem.W.Fast.tw1066825118222455980
abbrev denoteF := PySem.W.Fast.tw11892475500146522536
abbrev execsF := PySem.W.Fast.tw12563942051412417395
theorem segRunF_is : @segRunT = segRunF := PySem.W.Fast.te10110043849684766642
theorem treeTableF_is : treeTable = treeTableF := PySem.W.Fast.te14364793385576792824
theorem topGoF_is : @topGo = topGoF := PySem.W.Fast.te15667345088766844465
theorem topRunF_is : @topRun = topRunF := PySem.W.Fast.te14082659384304107361
theorem segRunPF_is : @segRun = segRunPF := PySem.W.Fast.te14374325043358763698
theorem blockF_is : @blockStart = blockF := PySem.W.Fast.te1066825118222455980
theorem denoteF_is : @denote = denoteF := PySem.W.Fast.te11892475500146522536
theorem execsF_is : @execs = execsF := PySem.W.Fast.te12563942051412417395
def ann0 : Option Value := some (.ref 6)
def shOf (d : Shared) : Option (Shared × Thread) → Shared
  | some (s, _) => s
  | none => d
def Sa (w : World) (os : OsState) : Shared := shOf (S0 w os) (topGoF treeTableF P0 w 11 ann0 12 (S0 w os) (topStub P0))
def treeAux : Nat → List Obj → BT → BT
  | _, [], t => t
  | i, o :: r, t => treeAux (i + 1) r (t.ins i o)
def treeOf (l : List Obj) : BT := treeAux 0 l .nil
def T0 (w : World) (os : OsState) : SharedT := ⟨treeOf (Sa w os).heap.objs.toList, 15, (Sa w os).heap.life, Array.mk [], (Sa w os).drawn, 187, os⟩
def resT (d : SharedT) : Option (Flow × SharedT × Code × Pos) → SharedT
  | some (_, s, _, _) => s
  | none => d
def go (w : World) (s : SharedT) (n a k : Nat) (p : Pos) : Option (Flow × SharedT × Code × Pos) :=
  segRunF treeTableF P0 w 11 ann0 1 n s ⟨(execsF ((body0.drop a).take k) env0).wrap doneF deadEnd id id, cE, p, B0⟩
def fol (w : World) (b : Bool) : World := w.withFollow "special-get-raises" b
def pA : Pos := ⟨233, 0, 233, 15⟩
def pB : Pos := ⟨325, 0, 325, 6⟩
def pC : Pos := ⟨569, 0, 574, 58⟩
def T1 (w : World) (os : OsState) : SharedT := resT (T0 w os) (go w (T0 w os) 2363 0 54 default)
def T2 (w : World) (os : OsState) : SharedT := resT (T1 w os) (go (fol w false) (T1 w os) 753 54 20 pA)
def T3 (w : World) (os : OsState) : SharedT := resT (T2 w os) (go w (T2 w os) 1642 74 28 pB)
theorem pre_ok : ∀ w os, topGoF treeTableF P0 w 11 ann0 12 (S0 w os) (topStub P0) = some (Sa w os, ⟨denoteF treeTableF cE, cE, default, [topFrame default]⟩) := fun _ _ => by kernel_rfl
theorem tree_ok : ∀ w os, Sa w os = (T0 w os).abs := fun _ _ => by kernel_rfl
theorem block_ok : ∀ w os, segRunPF treeTableF P0 w 11 ann0 1 1 (Sa w os) ⟨(blockF body0 env0).wrap (fun _ => doneF .next) deadEnd id id, cE, default, [topFrame default]⟩ = some (.next, Sa w os, cE, default) := fun _ _ => by kernel_rfl
theorem gos : ∀ w os, (go w (T0 w os) 2363 0 54 default, go (fol w false) (T1 w os) 753 54 20 pA, go (fol w true) (T1 w os) 753 54 20 pA, go w (T2 w os) 1642 74 28 pB) =
    (some (.next, T1 w os, cE, pA), some (.next, T2 w os, cE, pB), some (.next, T2 w os, cE, pB), some (.next, T3 w os, cE, pC)) := fun _ _ => by kernel_rfl
theorem go1 (w : World) (os : OsState) : go w (T0 w os) 2363 0 54 default = some (.next, T1 w os, cE, pA) := (Prod.mk.inj (gos w os)).1
theorem go2f (w : World) (os : OsState) : go (fol w false) (T1 w os) 753 54 20 pA = some (.next, T2 w os, cE, pB) := (Prod.mk.inj (Prod.mk.inj (gos w os)).2).1
theorem go2t (w : World) (os : OsState) : go (fol w true) (T1 w os) 753 54 20 pA = some (.next, T2 w os, cE, pB) := (Prod.mk.inj (Prod.mk.inj (Prod.mk.inj (gos w os)).2).2).1
theorem go3 (w : World) (os : OsState) : go w (T2 w os) 1642 74 28 pB = some (.next, T3 w os, cE, pC) := (Prod.mk.inj (Prod.mk.inj (Prod.mk.inj (gos w os)).2).2).2
end
end
theorem flush_2 : True := by
  w_top off
  first | walk1 | trivial
section
open PySem PySem.W PyProof.Rows
set_option Elab.async false
set_option maxRecDepth 100000
set_option maxHeartbeats 0
theorem go2 (w : World) (os : OsState) : go w (T1 w os) 753 54 20 pA = some (.next, T2 w os, cE, pB) := by
  have e : fol w (w.params.followText "special-get-raises") = w := World.withFollow_self w _
  have h : ∀ b, go (fol w b) (T1 w os) 753 54 20 pA = some (.next, T2 w os, cE, pB) := fun b => by
    cases b
    · exact go2f w os
    · exact go2t w os
  have := h (w.params.followText "special-get-raises")
  rwa [e] at this
theorem seg_of {w : World} {s s' : SharedT} {n a k : Nat} {p p' : Pos} (h : go w s n a k p = some (.next, s', cE, p')) :
    segRun treeTable P0 w 11 ann0 1 n s.abs (piecesOf ((body0.drop a).take k) env0 cE p [topFrame default]) = some (.next, s'.abs, cE, p') := by
  refine segRun_of ?_
  rw [segRunF_is, treeTableF_is]
  unfold piecesOf
  rw [execsF_is]
  exact h
theorem body_cut : body0 = (body0.drop 0).take 54 ++ ((body0.drop 54).take 20 ++ ((body0.drop 74).take 28 ++ [])) := by kernel_rfl
theorem fin_ok : ∀ (w : World) (s : Shared), topRunF treeTableF P0 w 11 ann0 2 s ⟨doneF .next, cE, pC, [topFrame default]⟩ = some s := fun _ _ => by kernel_rfl
theorem run_all (w : World) (os : OsState) : ∃ M, Nat.ble M 6000 = true ∧ topRun treeTable P0 w 11 ann0 M (S0 w os) (topStub P0) = some (T3 w os).abs := by
  refine ⟨12 + (1 + (2363 + (753 + (1642 + 2)))), rfl, ?_⟩
  refine go_top (s' := Sa w os) (t' := ⟨denote treeTable cE, cE, default, [topFrame default]⟩) ?_ ?_
  · rw [topGoF_is, treeTableF_is, denoteF_is]
    exact pre_ok w os
  refine piece_block (s' := Sa w os) (b := body0) (c := cE) (p' := default) ?_ ?_
  · unfold blockOf
    rw [segRunPF_is, treeTableF_is, blockF_is]
    exact block_ok w os
  rw [tree_ok w os, body_cut]
  refine piece_app (seg_of (go1 w os)) ?_
  refine piece_app (seg_of (go2 w os)) ?_
  refine piece_app (seg_of (go3 w os)) ?_
  refine piece_nil ?_
  rw [topRunF_is, treeTableF_is]
  exact fin_ok w _
end
theorem flush_3 : True := by
  w_top off
  first | walk1 | trivial
section
open PySem PySem.W PyProof.Rows
set_option Elab.async false
theorem roads_cons (lk : Look) (s : Stmt) (r : List Stmt) : noRoadLSs lk (s :: r) = (noRoadLS lk s && noRoadLSs lk r) := by kernel_rfl
theorem noRoad_app (lk : Look) : ∀ (a b : List Stmt), noRoadLSs lk (a ++ b) = (noRoadLSs lk a && noRoadLSs lk b)
  | [], b => (Bool.true_and _).symm
  | s :: a, b => by
    show noRoadLSs lk (s :: (a ++ b)) = _
    rw [roads_cons, roads_cons, noRoad_app lk a b, Bool.and_assoc]
theorem noRoad_cut {lk : Look} {l : List Stmt} (k : Nat) (h1 : noRoadLSs lk (l.take k) = true) (h2 : noRoadLSs lk ((l.drop k).take 1) = true) (h3 : noRoadLSs lk ((l.drop k).drop 1) = true) : noRoadLSs lk l = true := by
  conv => lhs; rw [← List.take_append_drop k l, ← List.take_append_drop 1 (l.drop k)]
  rw [noRoad_app, noRoad_app, h1, h2, h3]
  rfl
def lead (x : Str) (c : Nat) : Bool := x.cps.toList.head? == some c
theorem not_mem_lead {x : Str} {c : Nat} (h : lead x c = true) : ∀ {l : List Str}, (l.all fun y => !lead y c) = true → l.contains x = false
  | [], _ => rfl
  | y :: l, e => by
    simp only [List.all_cons, Bool.and_eq_true] at e
    have h2 := not_mem_lead (x := x) h e.2
    rw [List.contains_cons, h2, Bool.or_false]
    cases q : x == y with
    | false => rfl
    | true =>
      have : x = y := by simpa using q
      subst this
      rw [h] at e
      simp at e
theorem road_list (x : Str) : roadStr x = (x.cps.toList.any (fun c => c == 123 || c == 125) || (x.cps.toList.any (· == 46) && !x.cps.toList.any (· ≤ 32))) := by
  unfold roadStr
  simp only [Array.any_toList]
theorem opens_list (k p : Str) : k.opensWith p = ((k.cps.toList.take p.cps.toList.length) == p.cps.toList) := by
  unfold Str.opensWith
  rw [Bool.eq_iff_iff, beq_iff_eq, beq_iff_eq, ← Array.toList_inj]
  simp [Array.toList_extract, List.extract]
set_option maxRecDepth 100000 in
set_option maxHeartbeats 0 in
theorem str_ok (lk : Look) (x : Str) (h : lead x 32 = true) (hu : (!((x.cps.toList.take 2) == [95, 95])) = true) (hr : (!(x.cps.toList.any (fun c => c == 123 || c == 125) || (x.cps.toList.any (· == 46) && !x.cps.toList.any (· ≤ 32)))) = true) (hb : lk.but = none) : lk.str x = true := by
  have hu : x.opensWith "__" = false := by
    rw [opens_list, show (("__" : Str).cps.toList) = [95, 95] from by decide +kernel]
    simpa using hu
  have hr : roadStr x = false := by rw [road_list]; exact (Bool.not_eq_true' _).mp hr
  unfold Look.str Look.word attrL
  rw [hr, hu, hb]
  have h1 := not_mem_lead h (l := frameAttrs) (by decide +kernel)
  have h2 := not_mem_lead h (l := (["__dict__", "__getstate__", "__getattribute__", "__reduce__", "__reduce_ex__"] : List Str)) (by decide +kernel)
  have h3 := not_mem_lead h (l := (["__setattr__", "__delattr__", "__getattr__", "__getattribute__", "__call__", "__new__", "__prepare__", "__objclass__"] : List Str)) (by decide +kernel)
  rw [h1, h2, h3]
  simp

set_option maxRecDepth 100000
set_option maxHeartbeats 0
theorem assign_is (lk : Look) (n x : Str) (p q r : Pos) (k : Nat) : noRoadLSs lk [.Assign [.Name n p] (.Constant (.str x) k q) r] = ((lk.stores [.Name n p] && (lk.name n && true) && lk.str x) && true) := by kernel_rfl
theorem assign_road {lk : Look} {n x : Str} {p q r : Pos} {k : Nat} (hf : lk.foot = none) (hn : lk.name n = true) (hx : lk.str x = true) : noRoadLSs lk [.Assign [.Name n p] (.Constant (.str x) k q) r] = true := by
  refine (assign_is lk n x p q r k).trans ?_
  rw [hn, hx]
  unfold Look.stores
  rw [hf]
  rfl
theorem road_b (lk : Look) (hb : lk.but = none) (hn : lk.name "RESERVED" = true) (hf : lk.foot = none) : noRoadLSs lk ((P0.main.body.drop 89).take 1) = true := by
  show noRoadLSs lk [Stmt.Assign [Expr.Name _ _] (Expr.Constant (Const.str _) _ _) _] = true
  refine assign_road hf hn (str_ok lk _ ?_ ?_ ?_ hb) <;> k_qdec
abbrev lk0 : Look := { strict := !(importedModules P0.main.body).all cThrough.contains, foot := none, bare := (["vars", "dir", "locals"] : List Str).filter (readsOut P0 P0.main.body) }
abbrev lk1 : Look := { strict := false, foot := none, bare := [] }
theorem lk0_is : lk0 = lk1 := by kernel_rfl
theorem road_a : noRoadLSs lk1 (P0.main.body.take 89) = true := by kernel_rfl
theorem road_c : noRoadLSs lk1 ((P0.main.body.drop 89).drop 1) = true := by kernel_rfl
theorem name_ok : Look.name lk1 "RESERVED" = true := by kernel_rfl
theorem road : noRoadLSs lk0 P0.main.body = true := lk0_is ▸ noRoad_cut 89 road_a (road_b _ rfl name_ok rfl) road_c
theorem looks_open : looksOpen P0 = true := by
  unfold looksOpen
  refine look_both (look_both (look_both (look_both (look_both ?_ ?_) ?_) ?_) road) ?_ <;> kernel_rfl
theorem part_said : PySem.Challenge.rw_pq0636_01.row.partSaid = true := by
  unfold OpenRow.partSaid
  iterate 13 refine look_both ?_ ?_
  exact (looks_open : looksOpen P0 = true)
  all_goals kernel_rfl
theorem well : PySem.W.OpenLaw.wellSaid PySem.Challenge.rw_pq0636_01 = true := by
  unfold OpenLaw.wellSaid
  iterate 18 refine look_both ?_ ?_
  · unfold OpenRow.wellSaid
    refine look_both (look_both part_said ?_) ?_ <;> kernel_rfl
  all_goals kernel_rfl
end
theorem flush_4 : True := by
  w_top off
  first | walk1 | trivial
section
open PySem PySem.W PyProof.Rows
set_option Elab.async false
set_option maxRecDepth 100000
set_option maxHeartbeats 0
def pickHook {P : Prop} {β : Type 1} (_ : P → P) (h : β) : β := h
section
local macro_rules | `(tactic| o_head $H) => `(tactic| (assumption; exact $H))
noncomputable def hk : Hook := by
  refine pickHook (P := OpenRow.Holds PySem.Challenge.rw_pq0636_01.row) (fun hg => ?g) ?h
  k_head
end
noncomputable section
def asL : List Nat := [2, 3, 15, 17, 18, 20, 21, 22, 29, 30, 31, 33, 34, 36, 37, 38, 40, 41, 43, 44, 45, 46, 47, 48, 51, 58, 59, 60, 63, 70, 71, 72, 75, 77, 78, 80, 81, 82, 83, 85, 86, 88, 89, 90, 92, 93, 95, 96, 97, 99, 100, 102, 103, 104, 106, 107, 109, 110, 111, 113, 114, 116, 117, 118, 120, 121, 123, 124, 125, 127, 128, 130, 131, 132, 134, 135, 137, 138, 146, 148, 149, 151, 152, 153, 155, 156, 158, 159, 160, 161, 162, 163, 164, 174, 175, 176, 178, 179, 181, 182, 183, 185, 186, 188, 189, 190, 191, 192, 193, 194, 197, 199, 200, 202, 203, 204, 207, 208, 209, 211, 212, 214, 215, 216, 218, 219, 221, 222, 223, 225, 226, 228, 229, 230, 232, 233, 235, 236, 237, 239, 240, 242, 243, 244, 246, 247, 249, 250, 251, 253, 254, 256, 257, 258, 261, 262, 263, 265, 266, 268, 269, 270, 272, 273, 275, 276, 277, 279, 280, 282, 283, 284, 286, 287, 289, 290, 291, 293, 294, 296, 297, 298, 300, 301, 303, 304, 305, 307, 308, 310, 311, 312, 314, 315, 317, 318, 319, 321, 322, 324, 325, 326, 328, 329, 331, 332, 333, 335, 336, 338, 339, 340, 342, 343, 345, 346, 347, 348, 349, 351, 352, 354, 355, 356, 358, 359, 361, 362, 363, 365, 366, 368, 369, 370, 372, 373, 375, 376, 377, 379, 380, 382, 383, 384, 386, 387, 389, 390, 391, 393, 394, 396, 397, 398, 401, 402, 403, 405, 406, 408, 409, 410, 413, 414, 415, 417, 418, 420, 421, 422, 424, 425, 427, 428, 429, 430, 432, 433, 435, 436, 437, 439, 440, 442, 443, 444, 446, 447, 449, 450, 451, 453, 454, 456, 457, 458, 460, 461, 463, 464, 465, 467, 468, 470, 471, 472, 474, 475, 477, 478, 479, 481, 482, 484, 485, 486, 488, 489, 491, 492, 493, 495, 496, 498, 499, 500, 502, 503, 505, 506, 507, 509, 510, 512, 513, 514, 516, 517, 519, 520, 521, 523, 524, 526, 527, 528, 531, 532, 540, 541, 543, 544, 546, 547, 548, 549, 551, 552, 554, 555, 556, 558, 559, 561, 562, 563, 565, 566, 568, 569, 570, 572, 573, 575, 576, 577, 578, 580, 581, 583, 584, 585, 587, 588, 590, 591, 592, 594, 595, 597, 598, 599, 601, 602, 604, 605, 606, 608, 609, 611, 612, 613, 615, 616, 618, 619, 620, 621, 623, 624, 626, 627, 628, 630, 631, 633, 634, 635, 637, 638, 640, 641, 642, 643, 645, 646, 648, 649, 650, 652, 653, 655, 656, 657, 659, 660, 662, 663, 664, 666, 667, 669, 670, 671, 673, 674, 676, 677, 678, 680, 681, 683, 684, 685, 687, 688, 690, 691, 692, 694, 695, 697, 698, 699, 700, 701, 702, 703, 706, 708, 709, 711, 712, 713, 715, 716, 718, 719, 720, 722, 723, 725, 726, 727, 729, 730, 732, 733, 734, 736, 737, 739, 740, 741, 744, 745, 746, 748, 749, 751, 752, 753, 756, 757]
theorem as_is : ∀ P, asL = (hk.heap_1 P).map (·.1) := fun _ => by kernel_rfl
def Q0 : Program := { P0 with main := { P0.main with body := P0.main.body.drop 101 } }
def loose0 : List Str := P0.boundNames.filter (· != "law")
abbrev openSeenF := @PySem.W.Fast.tw4187177175401517315
theorem openSeenF_is : @openSeen = @openSeenF := PySem.W.Fast.te4187177175401517315
def Xt0 : Shared → Bool := fun s => xlAt Q0 [] s && recOk (RowW.records PySem.Challenge.rw_pq0636_01.row.toRowW) s
noncomputable def hook0 : Hook := kmHook hk.heap_1 asL as_is [480]
theorem looks1 : ∀ w os, ((staticsOk (importedModules P0.main.body) (S0 w os).heap (T3 w os).abs.heap && namesBound P0 (T3 w os).abs.heap && gensDone (T3 w os).abs && laidKept (S0 w os).heap (T3 w os).abs.heap), openSeenF Q0 loose0 (importedModules P0.main.body) Xt0 true (T3 w os).abs) = (true, openGood Q0 loose0) := fun _ _ => by kernel_rfl
def tg (T : SharedT) (a : Nat) : Option Obj := match Nat.blt a T.n with
  | true => (match T.tree.get a with
    | some o => alive o
    | none => none)
  | false => none
theorem tg_abs {T : SharedT} {a : Nat} {o : Obj} (h : tg T a = some o) : T.abs.heap.get? a = some o := by
  unfold tg at h
  split at h
  · rename_i hb
    split at h
    · rename_i o' ho
      exact (abs_get (Nat.le_of_ble_eq_true hb) ho).trans h
    · cases h
  · cases h
theorem tg_map {T : SharedT} {β : Type} {f : β → Obj} : ∀ {as : List Nat} {l : List β}, as.map (tg T) = l.map (fun p => some (f p)) → as.map T.abs.heap.get? = l.map fun p => some (f p)
  | [], [], _ => rfl
  | a :: as, p :: l, h => by
    simp only [List.map_cons, List.cons.injEq] at h ⊢
    exact ⟨tg_abs h.1, tg_map h.2⟩
  | [], _ :: _, h => by cases h
  | _ :: _, [], h => by cases h
theorem looks2t : ∀ (w : World) (os : OsState), (asL.map (tg (T3 w os)), [480].map (tg (T3 w os))) = ((hk.heap_1 w.params).map (fun p => some p.2), [480].map fun _ => some (tabObj #[])) := fun _ _ => by kernel_rfl
theorem looks2 (w : World) (os : OsState) : hook0.obs (T3 w os).abs = hook0.val w := Prod.ext (tg_map (Prod.mk.inj (looks2t w os)).1) (tg_map (Prod.mk.inj (looks2t w os)).2)
end
theorem open_is : opening P0 = plainProg P0.main.scope.names := by kernel_rfl
theorem fence_is : ∀ s, fenceModules? P0 s = some s := fun _ => by kernel_rfl
theorem split_open {x : Option Shared} {h : Heap} {g : Array GenState} {d : Drawn} {k : Nat} (e : x.map (fun s => (s.heap, s.gens, s.drawn, s.toks)) = some (h, g, d, k)) : ∃ os, x = some ⟨h, g, d, k, os⟩ := by
  cases x with
  | none => cases e
  | some s =>
    obtain ⟨h', g', d', k', os⟩ := s
    cases e
    exact ⟨os, rfl⟩
theorem top_from_of {tb : String → Option Builtin} {p : Program} {w : World} {N M m : Nat} {an : Option Value} {s₀ s₁ : Shared} (hM : Nat.ble M N = true) (h1 : (s₀.heap.isNs mainGlobals && s₀.gens.size == 0) = true) (e1 : s₀.heap.objs.size = m) (e2 : s₀.heap.nsMap mainGlobals "__annotations__" = an)
    (h2 : topRun tb p w m an M s₀ (topStub p) = some s₁) (h3 : (staticsOk (importedModules p.main.body) s₀.heap s₁.heap && namesBound p s₁.heap && gensDone s₁ && laidKept s₀.heap s₁.heap) = true) : topFrom tb p w N s₀ = some s₁ := by
  have r' := topRun_mono (N - M) _ _ _ _ h2
  rw [show M + (N - M) = N by have := Nat.le_of_ble_eq_true hM; omega] at r'
  subst e1; subst e2
  unfold topFrom
  rw [h1, r']
  simp only [Option.bind_some]
  rw [h3]
theorem left_gen {p q : Program} {loose : List Str} {Xt : Shared → Bool} {α : Type} {Yf : Shared → α} {Ya : World → α} {N : Nat} {w : World} {s₀ s₁ : Shared} (e : fencedOpening treeTable p w N = some s₀) (t : topFrom treeTable p w N s₀ = some s₁)
    (l2 : openSeen q loose (importedModules p.main.body) Xt true s₁ = openGood q loose) (l3 : Yf s₁ = Ya w) : (openEnds treeTable p w N).map (fun s => (openSeen q loose (importedModules p.main.body) Xt true s, Yf s)) = some (openGood q loose, Ya w) := by
  unfold openEnds
  rw [e]
  show (topFrom treeTable p w N s₀).map _ = _
  rw [t]
  exact congrArg some (Prod.ext l2 l3)
theorem size_ok : ∀ (w : World) (os : OsState), ((S0 w os).heap.isNs mainGlobals && (S0 w os).gens.size == 0) = true := fun _ _ => by kernel_rfl
theorem size_ok2 : ∀ (w : World) (os : OsState), (S0 w os).heap.objs.size = 11 := fun _ _ => by kernel_rfl
theorem size_ok3 : ∀ (w : World) (os : OsState), (S0 w os).heap.nsMap mainGlobals "__annotations__" = ann0 := fun _ _ => by kernel_rfl
theorem looks1b (w : World) (os : OsState) : openSeen Q0 loose0 (importedModules P0.main.body) Xt0 true (T3 w os).abs = openGood Q0 loose0 := by
  rw [openSeenF_is]
  exact (Prod.mk.inj (looks1 w os)).2
theorem left_ok : LeftO P0 Q0 loose0 Xt0 hook0.obs hook0.val 6000 := fun w => by
  obtain ⟨os, e⟩ := split_open (boot_open (N := 6000) open_is rfl fence_is w)
  obtain ⟨M, hM, r⟩ := run_all w os
  exact left_gen e (top_from_of hM (size_ok w os) (size_ok2 w os) (size_ok3 w os) r (Prod.mk.inj (looks1 w os)).1) (looks1b w os) (looks2 w os)
end
theorem flush_5 : True := by
  w_top off
  first | walk1 | trivial
section
open PySem PySem.W PyProof.Rows
set_option Elab.async false
set_option maxRecDepth 100000
set_option maxHeartbeats 0
abbrev row0 : OpenRow := PySem.Challenge.rw_pq0636_01.row
theorem hX0 : ∀ s, Xt0 s = true → XL Q0 [] (s.heap.nsMap mainGlobals) s.heap := fun s e => xl_of s (Bool.and_eq_true_iff.mp e).1
theorem hR0 : ∀ s, Xt0 s = true → RecFacts row0.records s.heap := fun s e => recFacts_of (Bool.and_eq_true_iff.mp e).2
theorem ok0 : (chainsOk Q0 && opensWell row0.prog && (frees row0.toRowW && row0.within.isEmpty)) = true := by kernel_rfl
theorem tabs0 : P0.tablesWhole = true := by kernel_rfl
theorem bare0 : row0.prog.bare := ⟨by kernel_rfl, by kernel_rfl, by kernel_rfl, by kernel_rfl, by kernel_rfl, tabs0⟩
theorem said0 : row0.wellSaid = true := row_said Mine.well
theorem wit0 : row0.toRowW.promised := ⟨[.list []], by decide +kernel, by decide +kernel⟩
theorem left0 : LeftO row0.prog Q0 loose0 Xt0 hook0.obs hook0.val 6000 := left_ok
theorem wr0 : (!row0.writes || row0.records.isEmpty) = true := by kernel_rfl
end
theorem flush_6 : True := by
  w_top off
  first | walk1 | trivial
section
open PySem PySem.W PyProof.Rows
set_option Elab.async false
set_option maxRecDepth 100000
set_option maxHeartbeats 0
theorem hd_of {d : DefRec} {kwd : List (Str × Expr)} (hdef : defOf Q0 row0.name = some (d, kwd)) (hp : row0.prog.theDef row0.name = some (d.params, d.body, d.scope)) (hkw : kwWritten? d.params.kwonlyargs d.params.kw_defaults = some kwd)
    (call : WalkO Q0 loose0 (XL Q0 []) (kmHook hk.heap_1 asL as_is [480]).says row0.toRowW d kwd fun f vs => PySem.call f vs) : PySem.Challenge.rw_pq0636_01.Holds :=
  holds_law well fun _ => holds_open (r := row0) left0 hook0.of hook0.keeps hX0 XL.keeps hdef hp hkw hR0 wr0 said0 ok0 bare0 wit0 call
local macro_rules | `(tactic| o_law) => `(tactic| skip)
local macro_rules | `(tactic| k_head) => `(tactic| refine hd_of (by rfl) (by rfl) (by rfl) ?hc)
local macro_rules | `(tactic| (case hw => w_witness2)) => `(tactic| skip)
open_top hd for PySem.Challenge.rw_pq0636_01
end
theorem flush_7 : True := by
  w_top off
  first | walk1 | trivial
section
open PySem PySem.W PyProof.Rows PySem.Calls
set_option Elab.async false
set_option maxRecDepth 100000
set_option maxHeartbeats 0
abbrev Led := List (Addr × Obj)
def Con (w : World) (loose : List Str) (mean : ExcName → Option Value) (mg mb : Str → Option Value) (f : Addr) (dep : Nat) (vs : List Value) (led : Led) (post : Value → Led → Prop) : Prop :=
  ∀ (dp un : Nat) (gd : Option (List Code)) (cn : Str) (cs : Scope) (a : Addr) (ccd : Value) (cl : List (Str × Addr)) (outer : List Env) (A₀ : Around) (base h₀ : Heap) (L : Addr) (m : Str → Option Value) (s : Shared) (Q E : Value → Shared → Prop),
    Below A₀ base outer h₀ → Fr h₀ L s.heap m → (hk.heap_1 w.params).In h₀ → News h₀ L s.heap led → Top topProg loose mean mg mb h₀ → cs.kind = .function → dp + dep < recursionLimit → un + 8 * dep < cLine →
    (∀ r led' h' tk', Fr h₀ L h' m → News h₀ L h' led' → post r led' → Q r { s with heap := h', toks := tk' }) →
    wpAny (model row0.prog w) (ktrTop dp un gd cn cs L a ccd cl outer) (call (.ref f) vs) Q E s
theorem room_own {dp D : Nat} (hd : dp + D < recursionLimit) : dp < recursionLimit := Nat.lt_of_le_of_lt (Nat.le_add_right _ _) hd
theorem room_lt {dp D dep k : Nat} (hd : dp + D < recursionLimit) (h : Nat.ble (k + dep) D = true) : dp + k + dep < recursionLimit := by
  rw [Nat.add_assoc]
  exact Nat.lt_of_le_of_lt (Nat.add_le_add_left (Nat.le_of_ble_eq_true h) _) hd
theorem units_lt {un D dep k : Nat} (hu : un + 8 * D < cLine) (h : Nat.ble (k + 8 * dep) (8 * D) = true) : un + k + 8 * dep < cLine := by
  rw [Nat.add_assoc]
  exact Nat.lt_of_le_of_lt (Nat.add_le_add_left (Nat.le_of_ble_eq_true h) _) hu
theorem ex1_3 {α : Sort _} {p1 p2 p3 : α → Prop} {P : Prop} (h : ∃ a, p1 a ∧ p2 a ∧ p3 a) (k : ∀ a, p1 a → p2 a → p3 a → P) : P := let ⟨a, h1, h2, h3⟩ := h; k a h1 h2 h3
theorem ex1_4 {α : Sort _} {p1 p2 p3 p4 : α → Prop} {P : Prop} (h : ∃ a, p1 a ∧ p2 a ∧ p3 a ∧ p4 a) (k : ∀ a, p1 a → p2 a → p3 a → p4 a → P) : P := let ⟨a, h1, h2, h3, h4⟩ := h; k a h1 h2 h3 h4
theorem ex2_4 {α β : Sort _} {p1 p2 p3 p4 : α → β → Prop} {P : Prop} (h : ∃ a b, p1 a b ∧ p2 a b ∧ p3 a b ∧ p4 a b) (k : ∀ a b, p1 a b → p2 a b → p3 a b → p4 a b → P) : P := let ⟨a, b, h1, h2, h3, h4⟩ := h; k a b h1 h2 h3 h4
theorem ex3_3 {α β γ : Sort _} {p1 p2 p3 : α → β → γ → Prop} {P : Prop} (h : ∃ a b c, p1 a b c ∧ p2 a b c ∧ p3 a b c) (k : ∀ a b c, p1 a b c → p2 a b c → p3 a b c → P) : P := let ⟨a, b, c, h1, h2, h3⟩ := h; k a b c h1 h2 h3
def Back (led : Led) (R : Tok → Value) (r : Value) (l : Led) : Prop := l = led ∧ ∃ t, r = R t
section
variable {w : World} {loose : List Str} {mean : ExcName → Option Value} {mg mb : Str → Option Value} {f : Addr} {dep : Nat} {vs : List Value} {led : Led} {post : Value → Led → Prop}
  {dp un : Nat} {gd : Option (List Code)} {cn : Str} {cs : Scope} {a : Addr} {ccd : Value} {cl : List (Str × Addr)} {outer : List Env} {A₀ : Around} {base h₀ : Heap} {L : Addr} {m : Str → Option Value} {s : Shared} {Q E : Value → Shared → Prop}
theorem use (C : Con w loose mean mg mb f dep vs led post) (B : Below A₀ base outer h₀) (F : Fr h₀ L s.heap m) (X : (hk.heap_1 w.params).In h₀) (N : News h₀ L s.heap led) (T : Top topProg loose mean mg mb h₀) (hkf : cs.kind = .function)
    (hd : dp + dep < recursionLimit) (hu : un + 8 * dep < cLine) (ret : ∀ r led' h' tk', Fr h₀ L h' m → News h₀ L h' led' → post r led' → Q r { s with heap := h', toks := tk' }) :
    wpAny (model row0.prog w) (ktrTop dp un gd cn cs L a ccd cl outer) (call (.ref f) vs) Q E s := C _ _ _ _ _ _ _ _ _ _ _ _ _ _ _ _ _ B F X N T hkf hd hu ret
theorem useB {R : Tok → Value} (C : Con w loose mean mg mb f dep vs led (Back led R)) (B : Below A₀ base outer h₀) (F : Fr h₀ L s.heap m) (X : (hk.heap_1 w.params).In h₀) (N : News h₀ L s.heap led) (T : Top topProg loose mean mg mb h₀) (hkf : cs.kind = .function)
    (hd : dp + dep < recursionLimit) (hu : un + 8 * dep < cLine) (ret : ∀ t h' tk', Fr h₀ L h' m → News h₀ L h' led → Q (R t) { s with heap := h', toks := tk' }) :
    wpAny (model row0.prog w) (ktrTop dp un gd cn cs L a ccd cl outer) (call (.ref f) vs) Q E s :=
  use C B F X N T hkf hd hu fun r led' h' tk' F' N' p => by
    obtain ⟨rfl, t, rfl⟩ := p
    exact ret t h' tk' F' N'
theorem backI {x : Int} {t : Tok} : Back led (fun t => .int x t) (.int x t) led := ⟨rfl, t, rfl⟩
theorem backS {x : Str} {t : Tok} : Back led (fun t => .str x t) (.str x t) led := ⟨rfl, t, rfl⟩
theorem backB {x : Bool} : Back led (fun _ => .bool x) (.bool x) led := ⟨rfl, 0, rfl⟩
theorem backN : Back led (fun _ => .none) .none led := ⟨rfl, 0, rfl⟩
theorem backI' {x y : Int} {t : Tok} (e : y = x) : Back led (fun t => .int x t) (.int y t) led := e ▸ backI
theorem backS' {x y : Str} {t : Tok} (e : y = x) : Back led (fun t => .str x t) (.str y t) led := e ▸ backS
theorem backB' {x y : Bool} (e : y = x) : Back led (fun _ => .bool x) (.bool y) led := e ▸ backB
abbrev tupObj (vs : List Value) : Obj := { cls := .type "tuple", data := .seq vs.toArray 0 }
def BackT (led : Led) (R : Tok → Tok → Tok → List Value) (r : Value) (l : Led) : Prop := ∃ D t1 t2 t3, r = .ref D ∧ l = (D, tupObj (R t1 t2 t3)) :: led ∧ ∀ p ∈ led, p.1 < D
theorem useT {R : Tok → Tok → Tok → List Value} (C : Con w loose mean mg mb f dep vs led (BackT led R)) (B : Below A₀ base outer h₀) (F : Fr h₀ L s.heap m) (X : (hk.heap_1 w.params).In h₀) (N : News h₀ L s.heap led) (T : Top topProg loose mean mg mb h₀) (hkf : cs.kind = .function)
    (hd : dp + dep < recursionLimit) (hu : un + 8 * dep < cLine) (ret : ∀ D t1 t2 t3 h' tk', Fr h₀ L h' m → News h₀ L h' ((D, tupObj (R t1 t2 t3)) :: led) → (∀ p ∈ led, p.1 < D) → Q (.ref D) { s with heap := h', toks := tk' }) :
    wpAny (model row0.prog w) (ktrTop dp un gd cn cs L a ccd cl outer) (call (.ref f) vs) Q E s :=
  use C B F X N T hkf hd hu fun r led' h' tk' F' N' p => by
    obtain ⟨D, t1, t2, t3, rfl, rfl, hlt⟩ := p
    exact ret D t1 t2 t3 h' tk' F' N' hlt
theorem news_sub {h₀ h : Heap} {L : Addr} {a b : Led} (N : News h₀ L h b) (hs : ∀ p ∈ a, p ∈ b) : News h₀ L h a := fun p hp => N p (hs p hp)
theorem sub_self {a : Led} : ∀ p ∈ a, p ∈ a := fun _ h => h
theorem sub_more {a b : Led} {x : Addr × Obj} (h : ∀ p ∈ a, p ∈ b) : ∀ p ∈ a, p ∈ x :: b := fun p hp => .tail _ (h p hp)
theorem sub_both {a b : Led} {x : Addr × Obj} (h : ∀ p ∈ a, p ∈ b) : ∀ p ∈ x :: a, p ∈ x :: b := fun p hp => by
  rcases List.mem_cons.mp hp with rfl | hp
  · exact .head _
  · exact .tail _ (h p hp)
theorem endT {R : Tok → Tok → Tok → List Value} {D : Addr} {h' : Heap} {tk' : Nat} {rest : Led} (ret : ∀ r led' h' tk', Fr h₀ L h' m → News h₀ L h' led' → BackT led R r led' → Q r { s with heap := h', toks := tk' }) (t1 t2 t3 : Tok) (F : Fr h₀ L h' m)
    (N : News h₀ L h' ((D, tupObj (R t1 t2 t3)) :: rest)) (hsub : ∀ p ∈ led, p ∈ rest) (hlt : ∀ p ∈ led, p.1 < D) : Q (.ref D) { s with heap := h', toks := tk' } :=
  ret _ _ _ _ F (news_sub N (sub_both hsub)) ⟨D, t1, t2, t3, rfl, rfl, hlt⟩
end
end
theorem flush_8 : True := by
  w_top off
  first | walk1 | trivial
section
open PySem PySem.W PyProof.Rows PySem.Calls
set_option Elab.async false
set_option maxRecDepth 100000
set_option maxHeartbeats 0
section
variable {prog : Program} {w : World} {A : Around} {E : Value → Shared → Prop} {s : Shared} {h₀ : Heap} {L l : Addr} {led : Led} {vs : List Value} {n : Nat} {x : Value} {value slice : PySem.Expr} {k : Int} {u : Tok} {Q : Value → Shared → Prop}
theorem isList_led (N : News h₀ L s.heap led) (hm : (l, W.listOf vs.toArray n) ∈ led) : s.heap.IsList l vs.toArray := ⟨_, (N _ hm).1, rfl, n, rfl⟩
theorem len_led (N : News h₀ L s.heap led) (hm : (l, W.listOf vs.toArray n) ∈ led) (hz : vs.length ≤ 1000) (h : Q (.int (vs.length : Int) (s.toks + 1)) { s with toks := s.toks + 1 + 1 }) : wpAny (model prog w) A (call (.builtin "len") [.ref l]) Q E s :=
  call_len_list (isList_led N hm) (by rw [List.size_toArray]; omega) (by rw [List.size_toArray]; exact h)
theorem item_led (N : News h₀ L s.heap led) (hm : (l, W.listOf vs.toArray n) ∈ led) (h0 : 0 ≤ k) (hk : k ≤ 1000) (hx : vs[k.toNat]? = some x) (h : Q x s)
    (hs : subscripted slice false (.ref l) (.int k u) = operate [.ref l, .int k u] (getItem (.ref l) (.int k u)) := by with_unfolding_all rfl) : wpAny (model prog w) A (subscriptTail value slice (.ref l) (.int k u)) Q E s :=
  tail_any (isList_led N hm).typeIs slot_list_getitem.lookup (wpAny_getItem_list (isList_led N hm) h0 (by omega) (by simpa using hx) h) hs
theorem last_led (N : News h₀ L s.heap led) (hm : (l, W.listOf (vs ++ [x]).toArray n) ∈ led) (h : Q x s)
    (hs : subscripted slice false (.ref l) (.int (-1) u) = operate [.ref l, .int (-1) u] (getItem (.ref l) (.int (-1) u)) := by with_unfolding_all rfl) : wpAny (model prog w) A (subscriptTail value slice (.ref l) (.int (-1) u)) Q E s :=
  tail_any (isList_led N hm).typeIs slot_list_getitem.lookup (wpAny_getItem_list_neg (isList_led N hm) (by omega) (by rw [List.size_toArray, List.length_append, List.length_singleton]; omega) (by omega) (by
    have e : ((-1 : Int) + ((vs ++ [x]).toArray.size : Int)).toNat = vs.length := by rw [List.size_toArray, List.length_append, List.length_singleton]; omega
    rw [e]
    simp) h) hs
end
abbrev tokObj (w : World) (k wd : Str) (at' : Addr) (t1 t2 t3 t4 t5 t6 : Tok) : Obj := dictOf [⟨PyData.keyHash w.params "kind", .str "kind" t1, .str k t2⟩, ⟨PyData.keyHash w.params "worth", .str "worth" t3, .str wd t4⟩, ⟨PyData.keyHash w.params "at", .str "at" t5, .ref at'⟩, ⟨PyData.keyHash w.params "is_in_a", .str "is_in_a" t6, .bool false⟩] 4
def TokAt (w : World) (led : Led) (v : Value) (kw : Str × Str) : Prop := ∃ b d at' t1 t2 t3 t4 t5 t6, v = .ref b ∧ (b, instObj 192 d) ∈ led ∧ (d, tokObj w kw.1 kw.2 at' t1 t2 t3 t4 t5 t6) ∈ led
inductive Toks (w : World) (led : Led) : List Value → List (Str × Str) → Prop
  | nil : Toks w led [] []
  | snoc {vs ts v kw} : Toks w led vs ts → TokAt w led v kw → Toks w led (vs ++ [v]) (ts ++ [kw])
theorem TokAt.mono {led led' : Led} {v : Value} {kw : Str × Str} (h : TokAt w led v kw) (hs : ∀ p ∈ led, p ∈ led') : TokAt w led' v kw := by
  obtain ⟨b, d, at', t1, t2, t3, t4, t5, t6, e, h1, h2⟩ := h
  exact ⟨b, d, at', t1, t2, t3, t4, t5, t6, e, hs _ h1, hs _ h2⟩
theorem Toks.mono {led led' : Led} {vs : List Value} {ts : List (Str × Str)} (h : Toks w led vs ts) (hs : ∀ p ∈ led, p ∈ led') : Toks w led' vs ts := by
  induction h with
  | nil => exact .nil
  | snoc _ t ih => exact .snoc ih (t.mono hs)
section
variable {w : World} {loose : List Str} {mean : ExcName → Option Value} {mg mb : Str → Option Value} {f : Addr} {dep : Nat} {vs : List Value} {led : Led} {post : Value → Led → Prop}
  {dp un : Nat} {gd : Option (List Code)} {cn : Str} {cs : Scope} {a : Addr} {ccd : Value} {cl : List (Str × Addr)} {outer : List Env} {A₀ : Around} {base h₀ : Heap} {L : Addr} {m : Str → Option Value} {s : Shared} {Q E : Value → Shared → Prop}
theorem useP (N : News h₀ L s.heap led) (F : Fr h₀ L s.heap m) (B : Below A₀ base outer h₀) (X : (hk.heap_1 w.params).In h₀) (T : Top topProg loose mean mg mb h₀) (hkf : cs.kind = .function) (C : Con w loose mean mg mb f dep vs led post)
    (hd : dp + dep < recursionLimit) (hu : un + 8 * dep < cLine) (ret : ∀ r led' h' tk', Fr h₀ L h' m → News h₀ L h' led' → post r led' → Q r { s with heap := h', toks := tk' }) :
    wpAny (model row0.prog w) (ktrTop dp un gd cn cs L a ccd cl outer) (call (.ref f) vs) Q E s := use C B F X N T hkf hd hu ret
theorem useN {R : Tok → Value} (N : News h₀ L s.heap led) (F : Fr h₀ L s.heap m) (B : Below A₀ base outer h₀) (X : (hk.heap_1 w.params).In h₀) (T : Top topProg loose mean mg mb h₀) (hkf : cs.kind = .function) (C : Con w loose mean mg mb f dep vs led (Back led R))
    (hd : dp + dep < recursionLimit) (hu : un + 8 * dep < cLine) (ret : ∀ t h' tk', Fr h₀ L h' m → News h₀ L h' led → Q (R t) { s with heap := h', toks := tk' }) :
    wpAny (model row0.prog w) (ktrTop dp un gd cn cs L a ccd cl outer) (call (.ref f) vs) Q E s := useB C B F X N T hkf hd hu ret
theorem useTN {R : Tok → Tok → Tok → List Value} (N : News h₀ L s.heap led) (F : Fr h₀ L s.heap m) (B : Below A₀ base outer h₀) (X : (hk.heap_1 w.params).In h₀) (T : Top topProg loose mean mg mb h₀) (hkf : cs.kind = .function) (C : Con w loose mean mg mb f dep vs led (BackT led R))
    (hd : dp + dep < recursionLimit) (hu : un + 8 * dep < cLine) (ret : ∀ D t1 t2 t3 h' tk', Fr h₀ L h' m → News h₀ L h' ((D, tupObj (R t1 t2 t3)) :: led) → (∀ p ∈ led, p.1 < D) → Q (.ref D) { s with heap := h', toks := tk' }) :
    wpAny (model row0.prog w) (ktrTop dp un gd cn cs L a ccd cl outer) (call (.ref f) vs) Q E s := useT C B F X N T hkf hd hu ret
end
def Hold (P : Prop) : Prop := P
theorem hold {prog : Program} {w : World} {A : Around} {f : Addr} {vs : List Value} {kw : List (Str × Value)} {Q E : Value → Shared → Prop} {s : Shared} (_hf : (f != 162 && f != 192 && f != 701) = true)
    (h : Hold (wpAny (model prog w) A (call (.ref f) vs kw) Q E s)) : wpAny (model prog w) A (call (.ref f) vs kw) Q E s := h
end
theorem flush_9 : True := by
  w_top off
  first | walk1 | trivial
section
open PySem PySem.W PyProof.Rows PySem.Calls
set_option Elab.async false
set_option maxRecDepth 100000
set_option maxHeartbeats 0
def OneLow (y : Str) : Prop := ∃ c, y = ⟨#[c]⟩ ∧ c < 97
theorem cap_no {y : Str} (h : OneLow y) : ¬ ¬ y.cps.toList < (Str.ofString "a").cps.toList := by
  obtain ⟨c, rfl, h⟩ := h
  rw [show (Str.ofString "a").cps.toList = [97] from by decide +kernel]
  simp [List.cons_lt_cons_iff, h]
def Low (x : Str) : Prop := ∀ c ∈ x.cps.toList, c < 97
theorem item_eq {x : Str} {i : Int} (h0 : 0 ≤ i) (h1 : i < x.length) : ∃ c, x.cps[i.toNat]? = some c ∧ Txt.item x i = ⟨#[c]⟩ := by
  have hn : i.toNat < x.cps.size := by
    have : x.length = x.cps.size := rfl
    omega
  refine ⟨x.cps[i.toNat], Array.getElem?_eq_getElem hn, ?_⟩
  unfold Txt.item Txt.charAt seqIndex?
  simp only [show ¬ i < 0 by omega, if_false]
  have e : (decide (0 ≤ i) && decide (i < (x.length : Int))) = true := by simp [h0, h1]
  rw [if_pos e]
  simp [Array.getElem?_eq_getElem hn]
theorem found_item {x S : Str} {i : Int} (h0 : 0 ≤ i) (h1 : i < x.length) : ∃ c, x.cps[i.toNat]? = some c ∧ (Builtin.Str.occurrences S (Txt.item x i) 0 S.length 1).isEmpty = !decide (c ∈ S.cps.toList) := by
  obtain ⟨c, hc, e⟩ := item_eq h0 h1
  refine ⟨c, hc, ?_⟩
  rw [e, ← StrLaws.found_one, Bool.not_not]
theorem run_stop {x S : Str} {i : Int} {r : Nat} {a : Int} (h0 : 0 ≤ i) (h1 : ∀ k c : Nat, i ≤ k → k < r → x.cps[k]? = some c → c ∈ S.cps.toList) (hi : i ≤ a) (hr : a ≤ (r : Int)) (hn : a < x.length) (e : (Builtin.Str.occurrences S (Txt.item x a) 0 S.length 1).isEmpty = true) : a = (r : Int) := by
  obtain ⟨c, hc, q⟩ := found_item (S := S) (by omega) hn
  rw [q] at e
  have hno : c ∉ S.cps.toList := by simpa using e
  rcases Int.lt_or_le a r with h | h
  · exact absurd (h1 a.toNat c (by omega) (by omega) hc) hno
  · omega
theorem run_more {x S : Str} {r : Nat} {a : Int} (h2 : ∀ c, x.cps[r]? = some c → c ∉ S.cps.toList) (h0 : 0 ≤ a) (hr : a ≤ (r : Int)) (hn : a < x.length) (e : (Builtin.Str.occurrences S (Txt.item x a) 0 S.length 1).isEmpty = false) : a + 1 ≤ (r : Int) := by
  obtain ⟨c, hc, q⟩ := found_item (S := S) h0 hn
  rw [q] at e
  have hin : c ∈ S.cps.toList := by simpa using e
  rcases Int.lt_or_le a r with h | h
  · omega
  · have : a.toNat = r := by omega
    exact absurd hin (h2 c (this ▸ hc))
theorem item_low {x : Str} {i : Int} (hx : Low x) (h0 : 0 ≤ i) (h1 : i < x.length) : OneLow (Txt.item x i) := by
  obtain ⟨c, hc, e⟩ := item_eq h0 h1
  exact ⟨c, e, hx c (by
    have := Array.mem_of_getElem? hc
    exact Array.mem_toList_iff.mpr this)⟩
section
variable {w : World} {loose : List Str} {mean : ExcName → Option Value} {mg mb : Str → Option Value} {led : Led}
theorem capital_ok (y : Str) (t : Tok) (hc : OneLow y) : Con w loose mean mg mb 203 1 [.str y t] led (Back led fun t => .str y t) := by
  unfold Con
  k_fill
  intro dp un gd cn cs a ccd cl outer A₀ base h₀ L m s Q E B F X N T hkf hd hu ret
  refine wpAny_call ?_
  k_dflt cell_enter
  k_steps
  all_goals first
    | exact ret _ _ _ _ (by k_asm) (by k_asm) backS
    | exact absurd (by assumption) (cap_no hc)
local macro_rules | `(tactic| walk_at "call ref") => `(tactic| (k_here; (with_reducible show wpAny _ _ (call (Value.ref 203) [Value.str _ _]) _ _ _); k_dflt (refine' useB (capital_ok _ _ ?k0) ?k1 ?k2 ?k3 ?k4 ?k5 ?k6 ?k7 ?k8 ?_; (case k0 => first | assumption | exact item_low (by assumption) (by omega) (by omega)); (case k1 => k_asm); (case k2 => k_asm); (case k3 => k_asm); (case k4 => k_asm); (case k5 => k_asm); (case k6 => first | exact rfl | assumption); (case k7 => ktr_room); (case k8 => ktr_units); k_whole); intro t9 h9 tk9 F9 N9; (try dsimp only); (try k_fold)))
theorem word_sign_ok (c : Nat) (t : Tok) (hc : c < 97) : Con w loose mean mg mb 215 2 [.str ⟨#[c]⟩ t] led (Back led fun _ => .bool (decide (c ∈ (Str.ofString "ABCDEFGHIJKLMNOPQRSTUVWXYZ0123456789-").cps.toList))) := by
  unfold Con
  k_fill
  intro dp un gd cn cs a ccd cl outer A₀ base h₀ L m s Q E B F X N T hkf hd hu ret
  have hc : OneLow ⟨#[c]⟩ := ⟨c, rfl, hc⟩
  refine wpAny_call ?_
  k_dflt cell_enter
  k_steps
  all_goals first
    | exact ret _ _ _ _ (by k_asm) (by k_asm) (backB' (StrLaws.found_one _ _))
def Run (x S : Str) (i : Int) (r : Nat) : Prop := 0 ≤ i ∧ i ≤ r ∧ r ≤ x.length ∧ (∀ k c : Nat, i ≤ k → k < r → x.cps[k]? = some c → c ∈ S.cps.toList) ∧ ∀ c, x.cps[r]? = some c → c ∉ S.cps.toList
theorem run_end_ok (x S : Str) (i : Int) (r : Nat) (t u v : Tok) (hlen : x.length ≤ 200) (hx : Low x) (hr : Run x S i r) :
    Con w loose mean mg mb 236 3 [.str x t, .int i u, .str S v] led (Back led fun t => .int r t) := by
  unfold Con
  k_fill
  intro dp un gd cn cs a ccd cl outer A₀ base h₀ L m s Q E B F X N T hkf hd hu ret
  obtain ⟨hi0, hir, hrn, h1, h2⟩ := hr
  refine wpAny_call ?_
  k_dflt (refine' code_def (binds := [("text", Value.str x t), ("at", Value.int i u), ("signs", Value.str S v)]) ?k1 ?k2 ?k3 ?k4 ?k5 ?kA ?kF ?kK ?k6 ?k7 ?k8 ?k9 ?kB ?_ ?c2 ?c3 ?c4 ?c5; (case kA => exact rfl); (case kF => exact rfl); (case kK => assumption); (case k1 => k_asm); (case k2 => k_asm); (case k3 => k_asm); (case k4 => k_asm); (case k5 => k_asm); (case k6 => k_is); (case k7 => k_is); (case k8 => ktr_room); (case k9 => exact BindsTo.of_eq rfl); (case c5 => decide); (case kB => exact locs rfl); (case c2 => exact rfl); (case c3 => exact rfl); (case c4 => exact rfl); k_whole; intro g' L' h' FG' F' N' B' X' T'; (try dsimp only); (try k_lift B'); (try k_fold))
  (k_with "state" => first | exact ⟨by omega, by omega⟩ | exact ⟨by omega, run_more h2 (by omega) (by assumption) (by assumption) (by assumption)⟩)
  (k_with "measure" => omega)
  (k_with "exec While BoolOp" => k_while (fun _ (a : Int) => i ≤ a ∧ a ≤ (r : Int)) (fun _ (a : Int) => ((x.length : Int) - a).toNat) "at")
  k_steps
  all_goals first
    | exact ret _ _ _ _ (by k_asm) (by k_asm) (backI' (by omega))
    | exact ret _ _ _ _ (by k_asm) (by k_asm) (backI' (run_stop hi0 h1 (by assumption) (by assumption) (by assumption) (by assumption)))
end
end
theorem flush_10 : True := by
  w_top off
  first | walk1 | trivial
section
open PySem PySem.W PyProof.Rows PySem.Calls
local macro_rules | `(tactic| walk_at "ite") => `(tactic| (k_here; k_openite; (first | (refine ite_pos (by with_reducible assumption) ?_) | (refine ite_neg (by with_reducible assumption) ?_) | (refine ite_isFalse (by with_reducible assumption) ?_)); (try dsimp only); walk_say "MINE"))
local macro_rules | `(tactic| walk_at "ite") => `(tactic| (k_here; k_closed; (first | (refine ite_pos (by decide +kernel) ?_) | (refine ite_neg (by decide +kernel) ?_)); (try dsimp only); walk_say "MINE"))
local macro_rules | `(tactic| k_mem) => `(tactic| first | with_reducible assumption | exact List.Mem.head _ | (refine' List.mem_cons_of_mem _ ?_; k_mem))
local macro_rules | `(tactic| kst_p1) => `(tactic| ((case k1 => k_asm); (case k2 => k_asm); (case k3 => k_asm); (case k4 => k_asm); (case k5 => k_asm); (case k6 => first | exact rfl | assumption); (case k7 => ktr_room); (case k8 => ktr_units); k_whole; intro t9 h9 tk9 F9 N9; (try dsimp only); (try k_fold)))
local macro_rules | `(tactic| ktr_room) => `(tactic| (first | exact room_lt (by assumption) rfl | exact room_own (by assumption)))
local macro_rules | `(tactic| ktr_units) => `(tactic| exact units_lt (by assumption) rfl)
section
open PySem PySem.W PyProof.Rows PySem.Calls
local macro_rules | `(tactic| walk_at "call ref") => `(tactic| (k_here; (with_reducible show wpAny _ _ (call (Value.ref 203) _ _) _ _ _); k_dflt (refine' useB (capital_ok _ _ ?k0) ?k1 ?k2 ?k3 ?k4 ?k5 ?k6 ?k7 ?k8 ?_; (case k0 => first | assumption | exact item_low (by assumption) (by omega) (by omega)); kst_p1)))
local macro_rules | `(tactic| walk_at "call ref") => `(tactic| (k_here; (with_reducible show wpAny _ _ (call (Value.ref 236) _ _) _ _ _); k_dflt (refine' useB (run_end_ok _ _ _ _ _ _ _ ?ka ?kb ?kc) ?k1 ?k2 ?k3 ?k4 ?k5 ?k6 ?k7 ?k8 ?_; (case kc => with_reducible assumption); (case ka => with_reducible assumption); (case kb => with_reducible assumption); kst_p1)))
local macro_rules | `(tactic| walk_at "subscriptTail Attribute") => `(tactic| (k_here; k_dflt (refine kba_turn (value' := PySem.Expr.Name (PySem.Str.ofString "_") ⟨0, 0, 0, 0⟩) (fun _ => rfl) ?_)))
section
open PySem PySem.W PyProof.Rows PySem.Calls
set_option Elab.async false
set_option maxRecDepth 100000
set_option maxHeartbeats 0
section
variable {w : World} {loose : List Str} {mean : ExcName → Option Value} {mg mb : Str → Option Value} {led : Led}
theorem number_end_a (x : Str) (i r : Nat) (t u : Tok) (hlen : x.length ≤ 200) (hx : Low x) (hr : Run x (Str.ofString "0123456789") i r) (hs : (Txt.slice x (some (r : Int)) (some ((r : Int) + 1)) == Str.ofString ".") = false) : Con w loose mean mg mb 243 5 [.str x t, .int i u] led (Back led fun t => .int r t) := by
  unfold Con
  k_fill
  intro dp un gd cn cs a ccd cl outer A₀ base h₀ L m s Q E B F X N T hkf hd hu ret
  refine wpAny_call ?_
  k_dflt (refine' code_def (binds := [("text", Value.str x t), ("at", Value.int i u)]) ?k1 ?k2 ?k3 ?k4 ?k5 ?kA ?kF ?kK ?k6 ?k7 ?k8 ?k9 ?kB ?_ ?c2 ?c3 ?c4 ?c5; (case kA => exact rfl); (case kF => exact rfl); (case kK => assumption); (case k1 => k_asm); (case k2 => k_asm); (case k3 => k_asm); (case k4 => k_asm); (case k5 => k_asm); (case k6 => k_is); (case k7 => k_is); (case k8 => ktr_room); (case k9 => exact BindsTo.of_eq rfl); (case c5 => decide); (case kB => exact locs rfl); (case c2 => exact rfl); (case c3 => exact rfl); (case c4 => exact rfl); k_whole; intro g' L' h' FG' F' N' B' X' T'; (try dsimp only); (try k_lift B'); (try k_fold))
  k_steps
  all_goals exact ret _ _ _ _ (by k_asm) (by k_asm) (backI' (by first | rfl | omega))
theorem number_end_b (x : Str) (i p r : Nat) (t u : Tok) (hlen : x.length ≤ 200) (hx : Low x) (hr : Run x (Str.ofString "0123456789") i p) (hr2 : Run x (Str.ofString "0123456789") ((p : Int) + 1) r) (hs : (Txt.slice x (some (p : Int)) (some ((p : Int) + 1)) == Str.ofString ".") = true) (hs2 : (Txt.slice x (some ((p : Int) + 1)) (some ((p : Int) + 2)) != Str.ofString "") = true) (hb : (p : Int) + 1 < x.length) (hin : (Builtin.Str.occurrences (Str.ofString "0123456789") (Txt.item x ((p : Int) + 1)) 0 ((Str.ofString "0123456789")).length 1).isEmpty = false) : Con w loose mean mg mb 243 5 [.str x t, .int i u] led (Back led fun t => .int r t) := by
  unfold Con
  k_fill
  intro dp un gd cn cs a ccd cl outer A₀ base h₀ L m s Q E B F X N T hkf hd hu ret
  refine wpAny_call ?_
  k_dflt (refine' code_def (binds := [("text", Value.str x t), ("at", Value.int i u)]) ?k1 ?k2 ?k3 ?k4 ?k5 ?kA ?kF ?kK ?k6 ?k7 ?k8 ?k9 ?kB ?_ ?c2 ?c3 ?c4 ?c5; (case kA => exact rfl); (case kF => exact rfl); (case kK => assumption); (case k1 => k_asm); (case k2 => k_asm); (case k3 => k_asm); (case k4 => k_asm); (case k5 => k_asm); (case k6 => k_is); (case k7 => k_is); (case k8 => ktr_room); (case k9 => exact BindsTo.of_eq rfl); (case c5 => decide); (case kB => exact locs rfl); (case c2 => exact rfl); (case c3 => exact rfl); (case c4 => exact rfl); k_whole; intro g' L' h' FG' F' N' B' X' T'; (try dsimp only); (try k_lift B'); (try k_fold))
  k_steps
  all_goals exact ret _ _ _ _ (by k_asm) (by k_asm) (backI' (by first | rfl | omega))
abbrev lineObj (w : World) (tk tk1 tk2 : Tok) (x : Str) (pl : Addr) : Obj := dictOf [⟨PyData.keyHash w.params "text", .str "text" tk1, .str x tk⟩, ⟨PyData.keyHash w.params "places", .str "places" tk2, .ref pl⟩] 2
theorem word_sign_ok' (y : Str) (t : Tok) (c : Nat) (hy : y = ⟨#[c]⟩) (hc : c < 97) (b : Bool) (hb : decide (c ∈ (Str.ofString "ABCDEFGHIJKLMNOPQRSTUVWXYZ0123456789-").cps.toList) = b) : Con w loose mean mg mb 215 2 [.str y t] led (Back led fun _ => .bool b) := by
  subst hy; subst hb
  exact word_sign_ok c t hc
local macro_rules | `(tactic| walk_at "call ref") => `(tactic| (k_here; (with_reducible show wpAny _ _ (call (Value.ref 215) _ _) _ _ _); k_dflt (refine' useB (word_sign_ok' _ _ 32 ?k0 (by decide) false (by decide +kernel)) ?k1 ?k2 ?k3 ?k4 ?k5 ?k6 ?k7 ?k8 ?_; (case k0 => with_reducible assumption); kst_p1)))
theorem need_apart_a (ln dx pl : Addr) (tk tk1 tk2 : Tok) (x : Str) (h1 : (ln, instObj 162 dx) ∈ led) (h2 : (dx, lineObj w tk tk1 tk2 x pl) ∈ led) (i : Nat) (u : Tok) (hlen : x.length ≤ 200) (hs : (Txt.slice x (some (i : Int)) (some ((i : Int) + 2)) == Str.ofString "") = true) : Con w loose mean mg mb 290 5 [.ref ln, .int i u] led (Back led fun _ => .none) := by
  unfold Con
  k_fill
  intro dp un gd cn cs a ccd cl outer A₀ base h₀ L m s Q E B F X N T hkf hd hu ret
  refine wpAny_call ?_
  k_dflt (refine' code_def (binds := [("line", Value.ref ln), ("end", Value.int i u)]) ?k1 ?k2 ?k3 ?k4 ?k5 ?kA ?kF ?kK ?k6 ?k7 ?k8 ?k9 ?kB ?_ ?c2 ?c3 ?c4 ?c5; (case kA => exact rfl); (case kF => exact rfl); (case kK => assumption); (case k1 => k_asm); (case k2 => k_asm); (case k3 => k_asm); (case k4 => k_asm); (case k5 => k_asm); (case k6 => k_is); (case k7 => k_is); (case k8 => ktr_room); (case k9 => exact BindsTo.of_eq rfl); (case c5 => decide); (case kB => exact locs rfl); (case c2 => exact rfl); (case c3 => exact rfl); (case c4 => exact rfl); k_whole; intro g' L' h' FG' F' N' B' X' T'; (try dsimp only); (try k_lift B'); (try k_fold))
  k_steps
  all_goals exact ret _ _ _ _ (by k_asm) (by k_asm) backN
theorem need_apart_b (ln dx pl : Addr) (tk tk1 tk2 : Tok) (x : Str) (h1 : (ln, instObj 162 dx) ∈ led) (h2 : (dx, lineObj w tk tk1 tk2 x pl) ∈ led) (i : Nat) (u : Tok) (hlen : x.length ≤ 200) (hs : (Txt.slice x (some (i : Int)) (some ((i : Int) + 2)) == Str.ofString "") = false) (hl : 1 ≤ (Txt.slice x (some (i : Int)) (some ((i : Int) + 2))).length) (hy : Txt.item (Txt.slice x (some (i : Int)) (some ((i : Int) + 2))) 0 = ⟨#[32]⟩) : Con w loose mean mg mb 290 5 [.ref ln, .int i u] led (Back led fun _ => .none) := by
  unfold Con
  k_fill
  intro dp un gd cn cs a ccd cl outer A₀ base h₀ L m s Q E B F X N T hkf hd hu ret
  have e1 : (Builtin.Str.occurrences (Str.ofString "\"'") (Txt.item (Txt.slice x (some (i : Int)) (some ((i : Int) + 2))) 0) 0 (Str.ofString "\"'").length 1).isEmpty = true := by rw [hy]; decide +kernel
  have e2 : (Txt.item (Txt.slice x (some (i : Int)) (some ((i : Int) + 2))) 0 == Str.ofString ".") = false := by rw [hy]; decide +kernel
  refine wpAny_call ?_
  k_dflt (refine' code_def (binds := [("line", Value.ref ln), ("end", Value.int i u)]) ?k1 ?k2 ?k3 ?k4 ?k5 ?kA ?kF ?kK ?k6 ?k7 ?k8 ?k9 ?kB ?_ ?c2 ?c3 ?c4 ?c5; (case kA => exact rfl); (case kF => exact rfl); (case kK => assumption); (case k1 => k_asm); (case k2 => k_asm); (case k3 => k_asm); (case k4 => k_asm); (case k5 => k_asm); (case k6 => k_is); (case k7 => k_is); (case k8 => ktr_room); (case k9 => exact BindsTo.of_eq rfl); (case c5 => decide); (case kB => exact locs rfl); (case c2 => exact rfl); (case c3 => exact rfl); (case c4 => exact rfl); k_whole; intro g' L' h' FG' F' N' B' X' T'; (try dsimp only); (try k_lift B'); (try k_fold))
  k_steps
  all_goals exact ret _ _ _ _ (by k_asm) (by k_asm) backN
theorem checked_number_ok (ln dx pl : Addr) (tk tk1 tk2 : Tok) (x : Str) (h1 : (ln, instObj 162 dx) ∈ led) (h2 : (dx, lineObj w tk tk1 tk2 x pl) ∈ led) (i r : Nat) (u v : Tok) (hlen : x.length ≤ 200) (hq : (Txt.replace (Txt.slice x (some (i : Int)) (some (r : Int))) (Str.ofString ".") (Str.ofString "")).length ≤ 18) : Con w loose mean mg mb 269 5 [.ref ln, .int i u, .int r v] led (Back led fun t => .str (Txt.slice x (some (i : Int)) (some (r : Int))) t) := by
  unfold Con
  k_fill
  intro dp un gd cn cs a ccd cl outer A₀ base h₀ L m s Q E B F X N T hkf hd hu ret
  refine wpAny_call ?_
  k_dflt (refine' code_def (binds := [("line", Value.ref ln), ("at", Value.int i u), ("end", Value.int r v)]) ?k1 ?k2 ?k3 ?k4 ?k5 ?kA ?kF ?kK ?k6 ?k7 ?k8 ?k9 ?kB ?_ ?c2 ?c3 ?c4 ?c5; (case kA => exact rfl); (case kF => exact rfl); (case kK => assumption); (case k1 => k_asm); (case k2 => k_asm); (case k3 => k_asm); (case k4 => k_asm); (case k5 => k_asm); (case k6 => k_is); (case k7 => k_is); (case k8 => ktr_room); (case k9 => exact BindsTo.of_eq rfl); (case c5 => decide); (case kB => exact locs rfl); (case c2 => exact rfl); (case c3 => exact rfl); (case c4 => exact rfl); k_whole; intro g' L' h' FG' F' N' B' X' T'; (try dsimp only); (try k_lift B'); (try k_fold))
  k_steps
  all_goals exact ret _ _ _ _ (by k_asm) (by k_asm) (backS' (by first | rfl | assumption))
theorem mark_at_ok (ln dx pl : Addr) (tk tk1 tk2 : Tok) (x : Str) (h1 : (ln, instObj 162 dx) ∈ led) (h2 : (dx, lineObj w tk tk1 tk2 x pl) ∈ led) (i : Nat) (y : Str) (u : Tok) (hlen : x.length ≤ 200) (hi : i < x.length) (hc : Txt.item x (i : Int) = y) (he : (Txt.slice x (some (i : Int)) (some ((i : Int) + 2)) == Str.ofString "==") = false) (hd : (([⟨#[42, 42]⟩, ⟨#[60, 61]⟩, ⟨#[62, 61]⟩] : List Str).any fun y => y == Txt.slice x (some (i : Int)) (some ((i : Int) + 2))) = false) (hs : (Builtin.Str.occurrences (Str.ofString "():+-*/=<>") (Txt.item x (i : Int)) 0 (Str.ofString "():+-*/=<>").length 1).isEmpty = false) : Con w loose mean mg mb 297 5 [.ref ln, .int i u] led (BackT led fun t1 t2 _ => [.str (Str.ofString "sign") t1, .str y t2]) := by
  unfold Con
  k_fill
  intro dp un gd cn cs a ccd cl outer A₀ base h₀ L m s Q E B F X N T hkf hd hu ret
  subst hc
  refine wpAny_call ?_
  k_dflt (refine' code_def (binds := [("line", Value.ref ln), ("at", Value.int i u)]) ?k1 ?k2 ?k3 ?k4 ?k5 ?kA ?kF ?kK ?k6 ?k7 ?k8 ?k9 ?kB ?_ ?c2 ?c3 ?c4 ?c5; (case kA => exact rfl); (case kF => exact rfl); (case kK => assumption); (case k1 => k_asm); (case k2 => k_asm); (case k3 => k_asm); (case k4 => k_asm); (case k5 => k_asm); (case k6 => k_is); (case k7 => k_is); (case k8 => ktr_room); (case k9 => exact BindsTo.of_eq rfl); (case c5 => decide); (case kB => exact locs rfl); (case c2 => exact rfl); (case c3 => exact rfl); (case c4 => exact rfl); k_whole; intro g' L' h' FG' F' N' B' X' T'; (try dsimp only); (try k_lift B'); (try k_fold))
  k_steps
  all_goals exact endT ret _ _ 0 (by k_asm) (by k_asm) (by first | exact sub_self | exact sub_more sub_self | exact sub_more (sub_more sub_self) | exact sub_more (sub_more (sub_more sub_self))) (by first | assumption | exact ktn_ltOf (by assumption) | exact ktn_ltOf (And.right (by assumption)) | exact ktn_ltOf (And.right (And.right (by assumption))))
end
end
theorem flush_11 : True := by
  w_top off
  first | walk1 | trivial
section
open PySem PySem.W PyProof.Rows PySem.Calls
set_option Elab.async false
set_option maxRecDepth 100000
set_option maxHeartbeats 0
section
variable {w : World} {loose : List Str} {mean : ExcName → Option Value} {mg mb : Str → Option Value} {led : Led}
local macro_rules | `(tactic| walk_at "call ref") => `(tactic| (k_here; (with_reducible show wpAny _ _ (call (Value.ref 297) _ _) _ _ _); k_dflt (refine' useT (mark_at_ok _ _ _ _ _ _ _ ?h1 ?h2 _ _ _ ?ka ?kb ?kc ?kd ?ke ?kf) ?k1 ?k2 ?k3 ?k4 ?k5 ?k6 ?k7 ?k8 ?_; (case h1 => k_mem); (case h2 => k_mem); (case ka => with_reducible assumption); (case kb => with_reducible assumption); (case kc => with_reducible assumption); (case kd => with_reducible assumption); (case ke => with_reducible assumption); (case kf => with_reducible assumption); (case k1 => k_asm); (case k2 => k_asm); (case k3 => k_asm); (case k4 => k_asm); (case k5 => k_asm); (case k6 => first | exact rfl | assumption); (case k7 => ktr_room); (case k8 => ktr_units); k_whole); intro D9 t9 u9 v9 h9 tk9 F9 N9 l9; (try k_lt l9); (try dsimp only); (try k_fold)))
def Apart (x : Str) (i : Nat) : Prop := (Txt.slice x (some (i : Int)) (some ((i : Int) + 2)) == Str.ofString "") = true ∨ ((Txt.slice x (some (i : Int)) (some ((i : Int) + 2)) == Str.ofString "") = false ∧ 1 ≤ (Txt.slice x (some (i : Int)) (some ((i : Int) + 2))).length ∧ Txt.item (Txt.slice x (some (i : Int)) (some ((i : Int) + 2))) 0 = ⟨#[32]⟩)
theorem need_apart_ok (ln dx pl : Addr) (tk tk1 tk2 : Tok) (x : Str) (h1 : (ln, instObj 162 dx) ∈ led) (h2 : (dx, lineObj w tk tk1 tk2 x pl) ∈ led) (i : Nat) (u : Tok) (hlen : x.length ≤ 200) (h : Apart x i) : Con w loose mean mg mb 290 5 [.ref ln, .int i u] led (Back led fun _ => .none) := by
  rcases h with h | ⟨ha, hb, hc⟩
  · exact need_apart_a ln dx pl tk tk1 tk2 x h1 h2 i u hlen h
  · exact need_apart_b ln dx pl tk tk1 tk2 x h1 h2 i u hlen ha hb hc
def NumEnd (x : Str) (i r : Nat) : Prop := (Run x (Str.ofString "0123456789") i r ∧ (Txt.slice x (some (r : Int)) (some ((r : Int) + 1)) == Str.ofString ".") = false) ∨ ∃ p : Nat, Run x (Str.ofString "0123456789") i p ∧ Run x (Str.ofString "0123456789") ((p : Int) + 1) r ∧
  (Txt.slice x (some (p : Int)) (some ((p : Int) + 1)) == Str.ofString ".") = true ∧ (Txt.slice x (some ((p : Int) + 1)) (some ((p : Int) + 2)) != Str.ofString "") = true ∧ (p : Int) + 1 < x.length ∧ (Builtin.Str.occurrences (Str.ofString "0123456789") (Txt.item x ((p : Int) + 1)) 0 (Str.ofString "0123456789").length 1).isEmpty = false
theorem number_end_ok (x : Str) (i r : Nat) (t u : Tok) (hlen : x.length ≤ 200) (hx : Low x) (h : NumEnd x i r) : Con w loose mean mg mb 243 5 [.str x t, .int i u] led (Back led fun t => .int r t) := by
  rcases h with ⟨ha, hb⟩ | ⟨p, ha, hb, hc, hd, he, hf⟩
  · exact number_end_a x i r t u hlen hx ha hb
  · exact number_end_b x i p r t u hlen hx ha hb hc hd he hf
theorem occ_is {S y : Str} {c : Nat} (h : y = ⟨#[c]⟩) : (Builtin.Str.occurrences S y 0 S.length 1).isEmpty = !decide (c ∈ S.cps.toList) := by
  rw [h, ← StrLaws.found_one, Bool.not_not]
theorem digit_cases {c : Nat} (h : 48 ≤ c ∧ c ≤ 57) : c = 48 ∨ c = 49 ∨ c = 50 ∨ c = 51 ∨ c = 52 ∨ c = 53 ∨ c = 54 ∨ c = 55 ∨ c = 56 ∨ c = 57 :=
  (by decide +kernel : ∀ c, c < 58 → 48 ≤ c → (c = 48 ∨ c = 49 ∨ c = 50 ∨ c = 51 ∨ c = 52 ∨ c = 53 ∨ c = 54 ∨ c = 55 ∨ c = 56 ∨ c = 57)) c (Nat.lt_succ_of_le h.2) h.1
theorem worth_at_sign (ln dx pl : Addr) (tk tk1 tk2 : Tok) (x : Str) (h1 : (ln, instObj 162 dx) ∈ led) (h2 : (dx, lineObj w tk tk1 tk2 x pl) ∈ led) (i c : Nat) (u : Tok) (hlen : x.length ≤ 200) (hx : Low x) (hi : i < x.length) (hk : c = 45 ∨ c = 43 ∨ c = 42) (hc : Txt.item x (i : Int) = ⟨#[c]⟩) (he : (Txt.slice x (some (i : Int)) (some ((i : Int) + 2)) == Str.ofString "==") = false) (hd : (([⟨#[42, 42]⟩, ⟨#[60, 61]⟩, ⟨#[62, 61]⟩] : List Str).any fun y => y == Txt.slice x (some (i : Int)) (some ((i : Int) + 2))) = false) : Con w loose mean mg mb 304 7 [.ref ln, .int i u] led (BackT led fun t1 t2 t3 => [.str (Str.ofString "sign") t1, .str ⟨#[c]⟩ t2, .int (i + 1) t3]) := by
  unfold Con
  k_fill
  intro dp un gd cn cs a ccd cl outer A₀ base h₀ L m s Q E B F X N T hkf hd hu ret
  have f1 : (Builtin.Str.occurrences (Str.ofString "ABCDEFGHIJKLMNOPQRSTUVWXYZ") (Txt.item x (i : Int)) 0 (Str.ofString "ABCDEFGHIJKLMNOPQRSTUVWXYZ").length 1).isEmpty = true := by rw [hc]; rcases hk with rfl | rfl | rfl <;> decide +kernel
  have f2 : (Builtin.Str.occurrences (Str.ofString "0123456789") (Txt.item x (i : Int)) 0 (Str.ofString "0123456789").length 1).isEmpty = true := by rw [hc]; rcases hk with rfl | rfl | rfl <;> decide +kernel
  have f3 : (Txt.item x (i : Int) == Str.ofString ".") = false := by rw [hc]; rcases hk with rfl | rfl | rfl <;> decide +kernel
  have f4 : (Builtin.Str.occurrences (Str.ofString "\"'") (Txt.item x (i : Int)) 0 (Str.ofString "\"'").length 1).isEmpty = true := by rw [hc]; rcases hk with rfl | rfl | rfl <;> decide +kernel
  have f5 : (Builtin.Str.occurrences (Str.ofString "():+-*/=<>") (Txt.item x (i : Int)) 0 (Str.ofString "():+-*/=<>").length 1).isEmpty = false := by rw [hc]; rcases hk with rfl | rfl | rfl <;> decide +kernel
  refine wpAny_call ?_
  k_dflt (refine' code_def (binds := [("line", Value.ref ln), ("at", Value.int i u)]) ?k1 ?k2 ?k3 ?k4 ?k5 ?kA ?kF ?kK ?k6 ?k7 ?k8 ?k9 ?kB ?_ ?c2 ?c3 ?c4 ?c5; (case kA => exact rfl); (case kF => exact rfl); (case kK => assumption); (case k1 => k_asm); (case k2 => k_asm); (case k3 => k_asm); (case k4 => k_asm); (case k5 => k_asm); (case k6 => k_is); (case k7 => k_is); (case k8 => ktr_room); (case k9 => exact BindsTo.of_eq rfl); (case c5 => decide); (case kB => exact locs rfl); (case c2 => exact rfl); (case c3 => exact rfl); (case c4 => exact rfl); k_whole; intro g' L' h' FG' F' N' B' X' T'; (try dsimp only); (try k_lift B'); (try k_fold))
  k_steps
  all_goals exact endT ret _ _ _ (by k_asm) (by k_asm) (by first | exact sub_self | exact sub_more sub_self | exact sub_more (sub_more sub_self) | exact sub_more (sub_more (sub_more sub_self))) (by first | assumption | exact ktn_ltOf (by assumption) | exact ktn_ltOf (And.right (by assumption)) | exact ktn_ltOf (And.right (And.right (by assumption))))
local macro_rules | `(tactic| walk_at "call ref") => `(tactic| (k_here; (with_reducible show wpAny _ _ (call (Value.ref 290) _ _) _ _ _); k_dflt (refine' useB (need_apart_ok _ _ _ _ _ _ _ ?h1 ?h2 _ _ ?ka ?kb) ?k1 ?k2 ?k3 ?k4 ?k5 ?k6 ?k7 ?k8 ?_; (case h1 => k_mem); (case h2 => k_mem); (case kb => with_reducible assumption); (case ka => with_reducible assumption); kst_p1)))
local macro_rules | `(tactic| walk_at "call ref") => `(tactic| (k_here; (with_reducible show wpAny _ _ (call (Value.ref 243) _ _) _ _ _); k_dflt (refine' useB (number_end_ok _ _ _ _ _ ?ka ?kb ?kc) ?k1 ?k2 ?k3 ?k4 ?k5 ?k6 ?k7 ?k8 ?_; (case kc => with_reducible assumption); (case ka => with_reducible assumption); (case kb => with_reducible assumption); kst_p1)))
local macro_rules | `(tactic| walk_at "call ref") => `(tactic| (k_here; (with_reducible show wpAny _ _ (call (Value.ref 269) _ _) _ _ _); k_dflt (refine' useB (checked_number_ok _ _ _ _ _ _ _ ?h1 ?h2 _ _ _ _ ?ka ?kb) ?k1 ?k2 ?k3 ?k4 ?k5 ?k6 ?k7 ?k8 ?_; (case h1 => k_mem); (case h2 => k_mem); (case kb => with_reducible assumption); (case ka => with_reducible assumption); kst_p1)))
theorem worth_at_num (ln dx pl : Addr) (tk tk1 tk2 : Tok) (x : Str) (h1 : (ln, instObj 162 dx) ∈ led) (h2 : (dx, lineObj w tk tk1 tk2 x pl) ∈ led) (i p r c : Nat) (u : Tok) (hlen : x.length ≤ 200) (hx : Low x) (hi : i < x.length) (hk : 48 ≤ c ∧ c ≤ 57) (hc : Txt.item x (i : Int) = ⟨#[c]⟩) (hw : Run x (Str.ofString "ABCDEFGHIJKLMNOPQRSTUVWXYZ0123456789-") (i : Int) p) (hpr : p ≤ r) (hn : NumEnd x i r) (hap : Apart x r) (hq : (Txt.replace (Txt.slice x (some (i : Int)) (some (r : Int))) (Str.ofString ".") (Str.ofString "")).length ≤ 18) : Con w loose mean mg mb 304 7 [.ref ln, .int i u] led (BackT led fun t1 t2 t3 => [.str (Str.ofString "number") t1, .str (Txt.slice x (some (i : Int)) (some (r : Int))) t2, .int r t3]) := by
  unfold Con
  k_fill
  intro dp un gd cn cs a ccd cl outer A₀ base h₀ L m s Q E B F X N T hkf hd hu ret
  have f1 : (Builtin.Str.occurrences (Str.ofString "ABCDEFGHIJKLMNOPQRSTUVWXYZ") (Txt.item x (i : Int)) 0 (Str.ofString "ABCDEFGHIJKLMNOPQRSTUVWXYZ").length 1).isEmpty = true := by rw [hc]; rcases digit_cases hk with rfl | rfl | rfl | rfl | rfl | rfl | rfl | rfl | rfl | rfl <;> decide +kernel
  have f2 : (Builtin.Str.occurrences (Str.ofString "0123456789") (Txt.item x (i : Int)) 0 (Str.ofString "0123456789").length 1).isEmpty = false := by rw [hc]; rcases digit_cases hk with rfl | rfl | rfl | rfl | rfl | rfl | rfl | rfl | rfl | rfl <;> decide +kernel
  refine wpAny_call ?_
  k_dflt (refine' code_def (binds := [("line", Value.ref ln), ("at", Value.int i u)]) ?k1 ?k2 ?k3 ?k4 ?k5 ?kA ?kF ?kK ?k6 ?k7 ?k8 ?k9 ?kB ?_ ?c2 ?c3 ?c4 ?c5; (case kA => exact rfl); (case kF => exact rfl); (case kK => assumption); (case k1 => k_asm); (case k2 => k_asm); (case k3 => k_asm); (case k4 => k_asm); (case k5 => k_asm); (case k6 => k_is); (case k7 => k_is); (case k8 => ktr_room); (case k9 => exact BindsTo.of_eq rfl); (case c5 => decide); (case kB => exact locs rfl); (case c2 => exact rfl); (case c3 => exact rfl); (case c4 => exact rfl); k_whole; intro g' L' h' FG' F' N' B' X' T'; (try dsimp only); (try k_lift B'); (try k_fold))
  k_steps
  all_goals exact endT ret _ _ _ (by k_asm) (by k_asm) (by first | exact sub_self | exact sub_more sub_self | exact sub_more (sub_more sub_self) | exact sub_more (sub_more (sub_more sub_self))) (by first | assumption | exact ktn_ltOf (by assumption) | exact ktn_ltOf (And.right (by assumption)) | exact ktn_ltOf (And.right (And.right (by assumption))))
theorem worth_at_dot (ln dx pl : Addr) (tk tk1 tk2 : Tok) (x : Str) (h1 : (ln, instObj 162 dx) ∈ led) (h2 : (dx, lineObj w tk tk1 tk2 x pl) ∈ led) (i r : Nat) (u : Tok) (hlen : x.length ≤ 200) (hx : Low x) (hi : (i : Int) + 1 < x.length) (hc : Txt.item x (i : Int) = ⟨#[46]⟩) (hs2 : (Txt.slice x (some ((i : Int) + 1)) (some ((i : Int) + 2)) != Str.ofString "") = true) (hin : (Builtin.Str.occurrences (Str.ofString "0123456789") (Txt.item x ((i : Int) + 1)) 0 (Str.ofString "0123456789").length 1).isEmpty = false) (hr : Run x (Str.ofString "0123456789") ((i : Int) + 1) r) (hap : Apart x r) (hq : (Txt.replace (Txt.slice x (some (i : Int)) (some (r : Int))) (Str.ofString ".") (Str.ofString "")).length ≤ 18) : Con w loose mean mg mb 304 7 [.ref ln, .int i u] led (BackT led fun t1 t2 t3 => [.str (Str.ofString "number") t1, .str (Txt.slice x (some (i : Int)) (some (r : Int))) t2, .int r t3]) := by
  unfold Con
  k_fill
  intro dp un gd cn cs a ccd cl outer A₀ base h₀ L m s Q E B F X N T hkf hd hu ret
  have f1 : (Builtin.Str.occurrences (Str.ofString "ABCDEFGHIJKLMNOPQRSTUVWXYZ") (Txt.item x (i : Int)) 0 (Str.ofString "ABCDEFGHIJKLMNOPQRSTUVWXYZ").length 1).isEmpty = true := by rw [hc]; decide +kernel
  have f2 : (Builtin.Str.occurrences (Str.ofString "0123456789") (Txt.item x (i : Int)) 0 (Str.ofString "0123456789").length 1).isEmpty = true := by rw [hc]; decide +kernel
  have f3 : (Txt.item x (i : Int) == Str.ofString ".") = true := by rw [hc]; decide +kernel
  refine wpAny_call ?_
  k_dflt (refine' code_def (binds := [("line", Value.ref ln), ("at", Value.int i u)]) ?k1 ?k2 ?k3 ?k4 ?k5 ?kA ?kF ?kK ?k6 ?k7 ?k8 ?k9 ?kB ?_ ?c2 ?c3 ?c4 ?c5; (case kA => exact rfl); (case kF => exact rfl); (case kK => assumption); (case k1 => k_asm); (case k2 => k_asm); (case k3 => k_asm); (case k4 => k_asm); (case k5 => k_asm); (case k6 => k_is); (case k7 => k_is); (case k8 => ktr_room); (case k9 => exact BindsTo.of_eq rfl); (case c5 => decide); (case kB => exact locs rfl); (case c2 => exact rfl); (case c3 => exact rfl); (case c4 => exact rfl); k_whole; intro g' L' h' FG' F' N' B' X' T'; (try dsimp only); (try k_lift B'); (try k_fold))
  k_steps
  all_goals exact endT ret _ _ _ (by k_asm) (by k_asm) (by first | exact sub_self | exact sub_more sub_self | exact sub_more (sub_more sub_self) | exact sub_more (sub_more (sub_more sub_self))) (by first | assumption | exact ktn_ltOf (by assumption) | exact ktn_ltOf (And.right (by assumption)) | exact ktn_ltOf (And.right (And.right (by assumption))))
end
end
theorem flush_12 : True := by
  w_top off
  first | walk1 | trivial
section
open PySem PySem.W PyProof.Rows PySem.Calls
set_option Elab.async false
set_option maxRecDepth 100000
set_option maxHeartbeats 0
open PyProof.Rows.LCg
section
variable {prog : Program} {w : World} {A : Around} {E : Value → Shared → Prop} {s : Shared} {h₀ : Heap} {L : Addr} {m : Str → Option Value} {env : Env}
theorem str_st {tx : Str} {t : Tok} {n : String} {I : Addr} : ∀ i (h h' : Heap) (o : Obj) (nw : Led), h.IsStrIter I n tx t i → h.get? I = some o → h'.get? I = some o → (∀ b o, h₀.get? b = some o → h'.get? b = some o) → News h₀ L h' nw → True → h'.IsStrIter I n tx t i :=
  fun i h h' o nw st e e' _ _ _ => by
    obtain ⟨o', q, r⟩ := st
    rw [e] at q
    cases q
    exact ⟨o, e', r⟩
theorem text_walks {I : Addr} (hh : A.handled = none) (x : Str) (t : Tok) : Walks prog w A I [I] [I] x.cps.size (fun i v => ∃ t, v = .str (Txt.item x i) t) (fun i h => h.IsStrIter I "str_ascii_iterator" x t i) :=
  let W := Walks.strAscii (prog := prog) (w := w) hh I x t
  { sub := W.sub, frame := W.frame, done := W.done, self := W.self,
    item := fun i s Q E hi st hQ => W.item i s Q E hi st fun v h' tk hP => hQ v h' tk (by
      obtain ⟨c, u, hc, rfl⟩ := hP
      have hl : x.length = x.cps.size := rfl
      obtain ⟨d, hd, e⟩ := item_eq (x := x) (i := (i : Int)) (by omega) (by omega)
      rw [Int.toNat_natCast, hc] at hd
      cases hd
      exact ⟨u, by rw [e]⟩) }
theorem comp_text {elt iter : Expr} {x : Str} {px : Pos} {scope : Scope} {cl : List (Str × Addr)} {pos : Pos} {Q : Value → Shared → Prop} (F₀ : Fr h₀ L s.heap m)
    (hclos : closureFor scope env = pure cl) (hcell : ∀ y ∈ scope.names, y.2 ≠ .cell) (hkind : scope.kind = .function)
    (hnames : ∀ y ∈ scope.names, y.2 = .local → scope.names.lookup y.1 = some .local) (hx : scope.names.lookup x = some .local)
    (h : wpAny (model prog w) A (eval iter env) (fun xv s₁ => ∃ tx t news, xv = .str tx t ∧ tx.cps.all (· < 128) = true ∧ A.handled = none ∧ Fr h₀ L s₁.heap m ∧ News h₀ L s₁.heap news ∧ tx.cps.size ≤ sizeLine ∧
      ∀ g, CompRest prog w A h₀ L m env elt x scope cl { s₁ with heap := g } (fun _ => True) (fun i v => ∃ t, v = .str (Txt.item tx i) t) (FinE h₀ L m { s₁ with heap := g } Q) tx.cps.size 0 [] news) E s)
    (hs : ∀ x, foldedSetIterable iter env x = pure x := by intro _; rfl) :
    wpAny (model prog w) A (eval (.ListComp elt [⟨.Name x px, iter, [], 0⟩] scope pos) env) Q E s := by
  rw [eval_ListComp]
  refine wpAny_comprehension_free (use := none) rfl hs hclos hkind hnames (wpAny_mono h (fun xv s₁ h₁ => ?_) fun _ _ e => e)
  obtain ⟨tx, t, news, rfl, ha, hh, F, N, hsz, R⟩ := h₁
  refine wpAny_pyIter_ascii ha ?_
  have up : ∀ b o, s₁.heap.get? b = some o → (s₁.heap.push { cls := .type "str_ascii_iterator", data := .fields #[.str tx t, .int 0 0] }).get? b = some o := fun b o e => Heap.get?_push_of_some _ e
  refine block_U (text_walks hh tx t) hsz (fun i h st => by obtain ⟨o, e, _⟩ := st; exact ⟨o, e⟩) str_st hcell hkind hx ⟨_, Heap.get?_push_size _ rfl, rfl, rfl⟩ (fun b hb => ?_)
    (F.keeps up) (N.grown up) (Nat.ne_of_lt F.ns.lt) (next_is_new F) (fun p hp => Nat.ne_of_lt (Heap.lt_size (N p hp).1)) trivial (R _) ?_
  · rw [List.mem_singleton.mp hb]
    show s₁.heap.objs.size < (s₁.heap.push _).objs.size
    rw [Heap.size_push]
    exact Nat.lt_succ_self _
  · intro D C h tk m' ys news' F' N' o1 hn hC₀ hD₀ hCL hDL hCD offC fin
    refine ⟨m', hn, fun h'' hs'' => fin D h'' tk (F'.change hs'' hCL hC₀) (fun p hp => ?_) o1⟩
    refine ⟨hs''.extBut _ _ ?_ (N' p hp).1, (N' p hp).2⟩
    rcases List.mem_cons.mp hp with rfl | hp
    · exact Ne.symm hCD
    · exact offC p hp
theorem comp_textT {ct elt iter : Expr} {x : Str} {px : Pos} {scope : Scope} {cl : List (Str × Addr)} {pos : Pos} {Q : Value → Shared → Prop} (F₀ : Fr h₀ L s.heap m)
    (hclos : closureFor scope env = pure cl) (hcell : ∀ y ∈ scope.names, y.2 ≠ .cell) (hkind : scope.kind = .function)
    (hnames : ∀ y ∈ scope.names, y.2 = .local → scope.names.lookup y.1 = some .local) (hx : scope.names.lookup x = some .local)
    (h : wpAny (model prog w) A (eval iter env) (fun xv s₁ => ∃ tx t news, xv = .str tx t ∧ tx.cps.all (· < 128) = true ∧ A.handled = none ∧ Fr h₀ L s₁.heap m ∧ News h₀ L s₁.heap news ∧ tx.cps.size ≤ sizeLine ∧
      ∀ g, LCt.CompRestT prog w A h₀ L m env ct elt x scope cl { s₁ with heap := g } (fun _ => True) (fun i v => ∃ t, v = .str (Txt.item tx i) t) (FinE h₀ L m { s₁ with heap := g } Q) tx.cps.size 0 [] news) E s)
    (hs : ∀ x, foldedSetIterable iter env x = pure x := by intro _; rfl) :
    wpAny (model prog w) A (eval (.ListComp elt [⟨.Name x px, iter, [ct], 0⟩] scope pos) env) Q E s := by
  rw [eval_ListComp]
  refine wpAny_comprehension_free (use := none) rfl hs hclos hkind hnames (wpAny_mono h (fun xv s₁ h₁ => ?_) fun _ _ e => e)
  obtain ⟨tx, t, news, rfl, ha, hh, F, N, hsz, R⟩ := h₁
  refine wpAny_pyIter_ascii ha ?_
  have up : ∀ b o, s₁.heap.get? b = some o → (s₁.heap.push { cls := .type "str_ascii_iterator", data := .fields #[.str tx t, .int 0 0] }).get? b = some o := fun b o e => Heap.get?_push_of_some _ e
  refine LCt.block_T (text_walks hh tx t) hsz (fun i h st => by obtain ⟨o, e, _⟩ := st; exact ⟨o, e⟩) str_st hcell hkind hx ⟨_, Heap.get?_push_size _ rfl, rfl, rfl⟩ (fun b hb => ?_)
    (F.keeps up) (N.grown up) (Nat.ne_of_lt F.ns.lt) (next_is_new F) (fun p hp => Nat.ne_of_lt (Heap.lt_size (N p hp).1)) trivial (R _) ?_
  · rw [List.mem_singleton.mp hb]
    show s₁.heap.objs.size < (s₁.heap.push _).objs.size
    rw [Heap.size_push]
    exact Nat.lt_succ_self _
  · intro D C h tk m' ys news' F' N' o1 hn hC₀ hD₀ hCL hDL hCD offC fin
    refine ⟨m', hn, fun h'' hs'' => fin D h'' tk (F'.change hs'' hCL hC₀) (fun p hp => ?_) o1⟩
    refine ⟨hs''.extBut _ _ ?_ (N' p hp).1, (N' p hp).2⟩
    rcases List.mem_cons.mp hp with rfl | hp
    · exact Ne.symm hCD
    · exact offC p hp
end
end
theorem flush_13 : True := by
  w_top off
  first | walk1 | trivial
section
open PySem PySem.W PyProof.Rows PySem.Calls
set_option Elab.async false
set_option maxRecDepth 100000
set_option maxHeartbeats 0
section
variable {w : World} {loose : List Str} {mean : ExcName → Option Value} {mg mb : Str → Option Value} {led : Led}
local macro_rules | `(tactic| walk_at "call ref") => `(tactic| (k_here; (with_reducible show wpAny _ _ (call (Value.ref 203) _ _) _ _ _); k_dflt (refine' useB (capital_ok _ _ ?k0) ?k1 ?k2 ?k3 ?k4 ?k5 ?k6 ?k7 ?k8 ?_; (case k0 => first | assumption | exact ⟨65, by decide +kernel, by decide⟩ | exact item_low (by assumption) (by omega) (by omega)); kst_p1)))
local macro_rules | `(tactic| walk_at "eval ListComp") => `(tactic| (k_here; k_dflt (refine comp_text (F₀ := by k_asm) (by rfl) (by decide) (by rfl) (by decide) (by rfl) ?_); k_dflt walk1; k_dflt (refine ⟨_, _, _, rfl, by decide +kernel, by rfl, by k_asm, by k_asm, by decide +kernel, fun g' => ?_⟩); lcg_lit))
local macro_rules | `(tactic| walk_at "CompEnd") => `(tactic| (k_here; k_dflt (refine LCg.CompEnd.intro (by with_reducible assumption) (by with_reducible assumption) _ sub_self (by with_reducible assumption) (by trivial) ?_)))
theorem capitals_A (t : Tok) : Con w loose mean mg mb 208 3 [.str (Str.ofString "A") t] led (Back led fun t => .str (Str.ofString "A") t) := by
  unfold Con
  k_fill
  intro dp un gd cn cs a ccd cl outer A₀ base h₀ L m s Q E B F X N T hkf hd hu ret
  refine wpAny_call ?_
  k_dflt (refine' code_def (binds := [("text", Value.str (Str.ofString "A") t)]) ?k1 ?k2 ?k3 ?k4 ?k5 ?kA ?kF ?kK ?k6 ?k7 ?k8 ?k9 ?kB ?_ ?c2 ?c3 ?c4 ?c5; (case kA => exact rfl); (case kF => exact rfl); (case kK => assumption); (case k1 => k_asm); (case k2 => k_asm); (case k3 => k_asm); (case k4 => k_asm); (case k5 => k_asm); (case k6 => k_is); (case k7 => k_is); (case k8 => ktr_room); (case k9 => exact BindsTo.of_eq rfl); (case c5 => decide); (case kB => exact locs rfl); (case c2 => exact rfl); (case c3 => exact rfl); (case c4 => exact rfl); k_whole; intro g' L' h' FG' F' N' B' X' T'; (try dsimp only); (try k_lift B'); (try k_fold))
  k_steps
  all_goals exact ret _ led _ _ (by k_asm) (news_sub (by with_reducible assumption) (sub_more sub_self)) (backS' (by decide +kernel))
theorem capitals_ok (y : Str) (t : Tok) (hy : y = Str.ofString "A") : Con w loose mean mg mb 208 3 [.str y t] led (Back led fun t => .str (Str.ofString "A") t) := by
  subst hy
  exact capitals_A t
end
theorem flush_14 : True := by
  w_top off
  first | walk1 | trivial
section
variable {w : World} {loose : List Str} {mean : ExcName → Option Value} {mg mb : Str → Option Value} {led : Led}
local macro_rules | `(tactic| ke_room) => `(tactic| ktr_units)
local macro_rules | `(tactic| walk_at "eval ListComp") => `(tactic| (k_here; k_dflt (refine comp_textT (F₀ := by k_asm) (by rfl) (by decide) (by rfl) (by decide) (by rfl) ?_); k_dflt walk1; k_dflt (refine ⟨_, _, _, rfl, by decide +kernel, by rfl, by k_asm, by k_asm, by decide +kernel, fun g' => ?_⟩); lct_lit))
local macro_rules | `(tactic| walk_at "CompEnd") => `(tactic| (k_here; k_dflt (refine LCg.CompEnd.intro (by with_reducible assumption) (by with_reducible assumption) _ sub_self (by with_reducible assumption) (by trivial) ?_)))
local macro_rules | `(tactic| walk_at "call ref") => `(tactic| (k_here; (with_reducible show wpAny _ _ (call (Value.ref 208) _ _) _ _ _); k_dflt (refine' useB (capitals_ok _ _ ?k0) ?k1 ?k2 ?k3 ?k4 ?k5 ?k6 ?k7 ?k8 ?_; (case k0 => with_reducible assumption); kst_p1)))
theorem checked_word_ok (ln dx pl : Addr) (tk tk1 tk2 : Tok) (x : Str) (h1 : (ln, instObj 162 dx) ∈ led) (h2 : (dx, lineObj w tk tk1 tk2 x pl) ∈ led) (i r : Nat) (u v : Tok) (hlen : x.length ≤ 200) (hq : Txt.slice x (some (i : Int)) (some (r : Int)) = Str.ofString "A") : Con w loose mean mg mb 262 12 [.ref ln, .int i u, .int r v] led (Back led fun t => .str (Str.ofString "A") t) := by
  unfold Con
  k_fill
  intro dp un gd cn cs a ccd cl outer A₀ base h₀ L m s Q E B F X N T hkf hd hu ret
  have f1 : (Builtin.Str.occurrences (Str.ofString "ABCDEFGHIJKLMNOPQRSTUVWXYZ") (Txt.item (Str.ofString "A") ((0 : Nat) : Int)) 0 (Str.ofString "ABCDEFGHIJKLMNOPQRSTUVWXYZ").length 1).isEmpty = false := by decide +kernel
  refine wpAny_call ?_
  k_dflt (refine' code_def (binds := [("line", Value.ref ln), ("at", Value.int i u), ("end", Value.int r v)]) ?k1 ?k2 ?k3 ?k4 ?k5 ?kA ?kF ?kK ?k6 ?k7 ?k8 ?k9 ?kB ?_ ?c2 ?c3 ?c4 ?c5; (case kA => exact rfl); (case kF => exact rfl); (case kK => assumption); (case k1 => k_asm); (case k2 => k_asm); (case k3 => k_asm); (case k4 => k_asm); (case k5 => k_asm); (case k6 => k_is); (case k7 => k_is); (case k8 => ktr_room); (case k9 => exact BindsTo.of_eq rfl); (case c5 => decide); (case kB => exact locs rfl); (case c2 => exact rfl); (case c3 => exact rfl); (case c4 => exact rfl); k_whole; intro g' L' h' FG' F' N' B' X' T'; (try dsimp only); (try k_lift B'); (try k_fold))
  k_steps
  all_goals exact ret _ led _ _ (by k_asm) (by first | k_asm | exact news_sub (by k_asm) (by first | exact sub_self | exact sub_more sub_self | exact sub_more (sub_more sub_self) | exact sub_more (sub_more (sub_more sub_self)))) (backS' (by first | rfl | assumption))
local macro_rules | `(tactic| walk_at "call ref") => `(tactic| (k_here; (with_reducible show wpAny _ _ (call (Value.ref 262) _ _) _ _ _); k_dflt (refine' useB (checked_word_ok _ _ _ _ _ _ _ ?h1 ?h2 _ _ _ _ ?ka ?kb) ?k1 ?k2 ?k3 ?k4 ?k5 ?k6 ?k7 ?k8 ?_; (case h1 => k_mem); (case h2 => k_mem); (case kb => with_reducible assumption); (case ka => with_reducible assumption); kst_p1)))
local macro_rules | `(tactic| walk_at "call ref") => `(tactic| (k_here; (with_reducible show wpAny _ _ (call (Value.ref 290) _ _) _ _ _); k_dflt (refine' useB (need_apart_ok _ _ _ _ _ _ _ ?h1 ?h2 _ _ ?ka ?kb) ?k1 ?k2 ?k3 ?k4 ?k5 ?k6 ?k7 ?k8 ?_; (case h1 => k_mem); (case h2 => k_mem); (case kb => with_reducible assumption); (case ka => with_reducible assumption); kst_p1)))
local macro_rules | `(tactic| walk_at "call ref") => `(tactic| (k_here; (with_reducible show wpAny _ _ (call (Value.ref 243) _ _) _ _ _); k_dflt (refine' useB (number_end_ok _ _ _ _ _ ?ka ?kb ?kc) ?k1 ?k2 ?k3 ?k4 ?k5 ?k6 ?k7 ?k8 ?_; (case kc => with_reducible assumption); (case ka => with_reducible assumption); (case kb => with_reducible assumption); kst_p1)))
theorem worth_at_word (ln dx pl : Addr) (tk tk1 tk2 : Tok) (x : Str) (h1 : (ln, instObj 162 dx) ∈ led) (h2 : (dx, lineObj w tk tk1 tk2 x pl) ∈ led) (i : Nat) (u : Tok) (hlen : x.length ≤ 200) (hx : Low x) (hi : i < x.length) (hc : Txt.item x (i : Int) = ⟨#[65]⟩) (hw : Run x (Str.ofString "ABCDEFGHIJKLMNOPQRSTUVWXYZ0123456789-") (i : Int) (i + 1)) (hn : NumEnd x i i) (hap : Apart x (i + 1)) (hq : Txt.slice x (some (i : Int)) (some ((i + 1 : Nat) : Int)) = Str.ofString "A") : Con w loose mean mg mb 304 14 [.ref ln, .int i u] led (BackT led fun t1 t2 t3 => [.str (Str.ofString "word") t1, .str (Str.ofString "A") t2, .int ((i + 1 : Nat) : Int) t3]) := by
  unfold Con
  k_fill
  intro dp un gd cn cs a ccd cl outer A₀ base h₀ L m s Q E B F X N T hkf hd hu ret
  have f1 : (Builtin.Str.occurrences (Str.ofString "ABCDEFGHIJKLMNOPQRSTUVWXYZ") (Txt.item x (i : Int)) 0 (Str.ofString "ABCDEFGHIJKLMNOPQRSTUVWXYZ").length 1).isEmpty = false := by rw [hc]; decide +kernel
  have f2 : (Builtin.Str.occurrences (Str.ofString "0123456789") (Txt.item x (i : Int)) 0 (Str.ofString "0123456789").length 1).isEmpty = true := by rw [hc]; decide +kernel
  refine wpAny_call ?_
  k_dflt (refine' code_def (binds := [("line", Value.ref ln), ("at", Value.int i u)]) ?k1 ?k2 ?k3 ?k4 ?k5 ?kA ?kF ?kK ?k6 ?k7 ?k8 ?k9 ?kB ?_ ?c2 ?c3 ?c4 ?c5; (case kA => exact rfl); (case kF => exact rfl); (case kK => assumption); (case k1 => k_asm); (case k2 => k_asm); (case k3 => k_asm); (case k4 => k_asm); (case k5 => k_asm); (case k6 => k_is); (case k7 => k_is); (case k8 => ktr_room); (case k9 => exact BindsTo.of_eq rfl); (case c5 => decide); (case kB => exact locs rfl); (case c2 => exact rfl); (case c3 => exact rfl); (case c4 => exact rfl); k_whole; intro g' L' h' FG' F' N' B' X' T'; (try dsimp only); (try k_lift B'); (try k_fold))
  k_steps
  all_goals exact endT ret _ _ _ (by k_asm) (by k_asm) (by first | exact sub_self | exact sub_more sub_self | exact sub_more (sub_more sub_self) | exact sub_more (sub_more (sub_more sub_self))) (by first | assumption | exact ktn_ltOf (by assumption) | exact ktn_ltOf (And.right (by assumption)) | exact ktn_ltOf (And.right (And.right (by assumption))))
theorem is_blank_yes (x : Str) (i : Nat) (t u : Tok) (hlen : x.length ≤ 200) (hi : i < x.length) (hc : Txt.item x (i : Int) = ⟨#[32]⟩) : Con w loose mean mg mb 311 3 [.str x t, .int i u] led (Back led fun _ => .bool true) := by
  unfold Con
  k_fill
  intro dp un gd cn cs a ccd cl outer A₀ base h₀ L m s Q E B F X N T hkf hd hu ret
  have f1 : (Txt.item x (i : Int) == Str.ofString " ") = true := by rw [hc]; decide +kernel
  refine wpAny_call ?_
  k_dflt (refine' code_def (binds := [("text", Value.str x t), ("at", Value.int i u)]) ?k1 ?k2 ?k3 ?k4 ?k5 ?kA ?kF ?kK ?k6 ?k7 ?k8 ?k9 ?kB ?_ ?c2 ?c3 ?c4 ?c5; (case kA => exact rfl); (case kF => exact rfl); (case kK => assumption); (case k1 => k_asm); (case k2 => k_asm); (case k3 => k_asm); (case k4 => k_asm); (case k5 => k_asm); (case k6 => k_is); (case k7 => k_is); (case k8 => ktr_room); (case k9 => exact BindsTo.of_eq rfl); (case c5 => decide); (case kB => exact locs rfl); (case c2 => exact rfl); (case c3 => exact rfl); (case c4 => exact rfl); k_whole; intro g' L' h' FG' F' N' B' X' T'; (try dsimp only); (try k_lift B'); (try k_fold))
  k_steps
  all_goals exact ret _ _ _ _ (by k_asm) (by k_asm) (backB' (by first | rfl | assumption))
theorem is_blank_no (x : Str) (i c : Nat) (t u : Tok) (hlen : x.length ≤ 200) (hi : i < x.length) (hk : c ≠ 32 ∧ c ≠ 44 ∧ c ≠ 59) (hc : Txt.item x (i : Int) = ⟨#[c]⟩) : Con w loose mean mg mb 311 3 [.str x t, .int i u] led (Back led fun _ => .bool false) := by
  unfold Con
  k_fill
  intro dp un gd cn cs a ccd cl outer A₀ base h₀ L m s Q E B F X N T hkf hd hu ret
  have f1 : (Txt.item x (i : Int) == Str.ofString " ") = false := by
    rw [hc]
    refine beq_eq_false_iff_ne.mpr fun e => hk.1 ?_
    have := congrArg (fun y : Str => y.cps) e
    rw [show (Str.ofString " ").cps = #[32] from by decide +kernel] at this
    simpa using this
  have f2 : (Builtin.Str.occurrences (Str.ofString ",;") (Txt.item x (i : Int)) 0 (Str.ofString ",;").length 1).isEmpty = true := by
    rw [occ_is hc, show (Str.ofString ",;").cps.toList = [44, 59] from by decide +kernel]
    simp [hk.2.1, hk.2.2]
  refine wpAny_call ?_
  k_dflt (refine' code_def (binds := [("text", Value.str x t), ("at", Value.int i u)]) ?k1 ?k2 ?k3 ?k4 ?k5 ?kA ?kF ?kK ?k6 ?k7 ?k8 ?k9 ?kB ?_ ?c2 ?c3 ?c4 ?c5; (case kA => exact rfl); (case kF => exact rfl); (case kK => assumption); (case k1 => k_asm); (case k2 => k_asm); (case k3 => k_asm); (case k4 => k_asm); (case k5 => k_asm); (case k6 => k_is); (case k7 => k_is); (case k8 => ktr_room); (case k9 => exact BindsTo.of_eq rfl); (case c5 => decide); (case kB => exact locs rfl); (case c2 => exact rfl); (case c3 => exact rfl); (case c4 => exact rfl); k_whole; intro g' L' h' FG' F' N' B' X' T'; (try dsimp only); (try k_lift B'); (try k_fold))
  k_steps
  all_goals first | exact ret _ _ _ _ (by k_asm) (by k_asm) (backB' (by first | rfl | assumption)) | exact ret _ _ _ _ (by k_asm) (by k_asm) (backB' (by simp_all))
end
end
theorem flush_15 : True := by
  w_top off
  first | walk1 | trivial
section
open PySem PySem.W PyProof.Rows PySem.Calls
set_option Elab.async false
set_option maxRecDepth 100000
set_option maxHeartbeats 0
section
variable {prog : Program} {w : World} {A : Around} {E : Value → Shared → Prop} {env : Env} {test : PySem.Expr} {body : List Stmt} {Q : Flow → Shared → Prop}
def Turned {α : Type} (Inv : List α → Shared → Prop) (Q : Flow → Shared → Prop) (rest : List α) (f : Flow) (s : Shared) : Prop :=
  match f with
  | .next => Inv rest s
  | .cont => Inv rest s
  | .brk => Q .next s
  | .ret v => Q (.ret v) s
theorem while_items {α : Type} (hE : PassesOwn (model prog w) A env E) (Inv : List α → Shared → Prop)
    (turn : ∀ it rest s, Inv (it :: rest) s → wpAny (model prog w) A (isTrue test env (eval test env)) (fun b s₂ => WhlIf b (wpAny (model prog w) A (execs body env) (Turned Inv Q rest) E s₂) (wpAny (model prog w) A (execs [] env) Q E s₂)) E s)
    (stop : ∀ s, Inv [] s → wpAny (model prog w) A (isTrue test env (eval test env)) (fun b s₂ => WhlIf b False (wpAny (model prog w) A (execs [] env) Q E s₂)) E s) :
    ∀ items s, Inv items s → WhlRest prog w A E env test body [] Q 1 s
  | [], s, h => whl_turn (k := 0) hE (wpAny_mono (stop s h) (fun b s₂ h₂ => by
      cases b with
      | true => exact (h₂ : False).elim
      | false => exact h₂) fun _ _ e => e)
  | it :: rest, s, h => whl_turn (k := 0) hE (wpAny_mono (turn it rest s h) (fun b s₂ h₂ => by
      cases b with
      | false => exact h₂
      | true =>
        refine WhlIf.yes rfl ?_
        have h₃ : wpAny (model prog w) A (execs body env) (Turned Inv Q rest) E s₂ := h₂
        refine wpAny_mono h₃ (fun f s₃ h₄ => ?_) fun _ _ e => e
        cases f with
        | next => exact while_items hE Inv turn stop rest s₃ h₄
        | cont => exact while_items hE Inv turn stop rest s₃ h₄
        | brk => exact h₄
        | ret v => exact h₄) fun _ _ e => e)
end
end
theorem flush_16 : True := by
  w_top off
  first | walk1 | trivial
section
open PySem PySem.W PyProof.Rows PySem.Calls
set_option Elab.async false
set_option maxRecDepth 100000
set_option maxHeartbeats 0
section
variable {w : World} {loose : List Str} {mean : ExcName → Option Value} {mg mb : Str → Option Value} {led : Led}
local macro_rules | `(tactic| walk_at "call builtin:len") => `(tactic| (k_here; (with_reducible show wpAny _ _ (call (Value.builtin "len") [Value.ref _]) _ _ _); k_dflt (refine' len_led ?N ?m ?z ?_; (case N => k_asm); (case m => k_mem); (case z => first | omega | (simp only [List.length_append, List.length_cons, List.length_nil]; omega)); k_whole)))
local macro_rules | `(tactic| walk_at "subscriptTail") => `(tactic| (k_here; (with_reducible show wpAny _ _ (subscriptTail _ _ (Value.ref _) (Value.int (-1) _)) _ _ _); k_dflt (refine' last_led ?N ?m ?_ ?z; (case N => k_asm); (case m => k_mem); (case z => with_unfolding_all rfl); k_whole)))
def NoPic (k wd : Str) : Prop := (k == Str.ofString "word") = false ∨ (([Str.ofString "PIC", Str.ofString "PICTURE"] : List Str).any fun x => x == wd) = false
theorem is_picture_next_nil (l : Addr) (n : Nat) (h3 : (l, W.listOf #[] n) ∈ led) : Con w loose mean mg mb 318 4 [.ref l] led (Back led fun _ => .bool false) := by
  unfold Con
  k_fill
  intro dp un gd cn cs a ccd cl outer A₀ base h₀ L m s Q E B F X N T hkf hd hu ret
  refine wpAny_call ?_
  k_dflt (refine' code_def (binds := [("tokens", Value.ref l)]) ?k1 ?k2 ?k3 ?k4 ?k5 ?kA ?kF ?kK ?k6 ?k7 ?k8 ?k9 ?kB ?_ ?c2 ?c3 ?c4 ?c5; (case kA => exact rfl); (case kF => exact rfl); (case kK => assumption); (case k1 => k_asm); (case k2 => k_asm); (case k3 => k_asm); (case k4 => k_asm); (case k5 => k_asm); (case k6 => k_is); (case k7 => k_is); (case k8 => ktr_room); (case k9 => exact BindsTo.of_eq rfl); (case c5 => decide); (case kB => exact locs rfl); (case c2 => exact rfl); (case c3 => exact rfl); (case c4 => exact rfl); k_whole; intro g' L' h' FG' F' N' B' X' T'; (try dsimp only); (try k_lift B'); (try k_fold))
  k_steps
  all_goals exact ret _ led _ _ (by k_asm) (by first | k_asm | exact news_sub (by k_asm) (by first | exact sub_self | exact sub_more sub_self | exact sub_more (sub_more sub_self) | exact sub_more (sub_more (sub_more sub_self)))) (backB' (by first | rfl | assumption | decide))
theorem is_picture_next_k (l b d at' : Addr) (k wd : Str) (t1 t2 t3 t4 t5 t6 : Tok) (n : Nat) (pre : List Value) (h3 : (l, W.listOf (pre ++ [Value.ref b]).toArray n) ∈ led) (h4 : (b, instObj 192 d) ∈ led) (h5 : (d, tokObj w k wd at' t1 t2 t3 t4 t5 t6) ∈ led) (hpre : pre.length ≤ 200) (f1 : (k == Str.ofString "word") = false) : Con w loose mean mg mb 318 4 [.ref l] led (Back led fun _ => .bool false) := by
  unfold Con
  k_fill
  intro dp un gd cn cs a ccd cl outer A₀ base h₀ L m s Q E B F X N T hkf hd hu ret
  have f0 : 0 < ((pre ++ [Value.ref b]).length : Int) := by rw [List.length_append, List.length_singleton]; omega
  refine wpAny_call ?_
  k_dflt (refine' code_def (binds := [("tokens", Value.ref l)]) ?k1 ?k2 ?k3 ?k4 ?k5 ?kA ?kF ?kK ?k6 ?k7 ?k8 ?k9 ?kB ?_ ?c2 ?c3 ?c4 ?c5; (case kA => exact rfl); (case kF => exact rfl); (case kK => assumption); (case k1 => k_asm); (case k2 => k_asm); (case k3 => k_asm); (case k4 => k_asm); (case k5 => k_asm); (case k6 => k_is); (case k7 => k_is); (case k8 => ktr_room); (case k9 => exact BindsTo.of_eq rfl); (case c5 => decide); (case kB => exact locs rfl); (case c2 => exact rfl); (case c3 => exact rfl); (case c4 => exact rfl); k_whole; intro g' L' h' FG' F' N' B' X' T'; (try dsimp only); (try k_lift B'); (try k_fold))
  k_steps
  all_goals exact ret _ led _ _ (by k_asm) (by first | k_asm | exact news_sub (by k_asm) (by first | exact sub_self | exact sub_more sub_self | exact sub_more (sub_more sub_self) | exact sub_more (sub_more (sub_more sub_self)))) (backB' (by first | rfl | assumption | decide))
theorem is_picture_next_w (l b d at' : Addr) (k wd : Str) (t1 t2 t3 t4 t5 t6 : Tok) (n : Nat) (pre : List Value) (h3 : (l, W.listOf (pre ++ [Value.ref b]).toArray n) ∈ led) (h4 : (b, instObj 192 d) ∈ led) (h5 : (d, tokObj w k wd at' t1 t2 t3 t4 t5 t6) ∈ led) (hpre : pre.length ≤ 200) (f1 : (k == Str.ofString "word") = true) (f2 : (([Str.ofString "PIC", Str.ofString "PICTURE"] : List Str).any fun x => x == wd) = false) : Con w loose mean mg mb 318 4 [.ref l] led (Back led fun _ => .bool false) := by
  unfold Con
  k_fill
  intro dp un gd cn cs a ccd cl outer A₀ base h₀ L m s Q E B F X N T hkf hd hu ret
  have f0 : 0 < ((pre ++ [Value.ref b]).length : Int) := by rw [List.length_append, List.length_singleton]; omega
  refine wpAny_call ?_
  k_dflt (refine' code_def (binds := [("tokens", Value.ref l)]) ?k1 ?k2 ?k3 ?k4 ?k5 ?kA ?kF ?kK ?k6 ?k7 ?k8 ?k9 ?kB ?_ ?c2 ?c3 ?c4 ?c5; (case kA => exact rfl); (case kF => exact rfl); (case kK => assumption); (case k1 => k_asm); (case k2 => k_asm); (case k3 => k_asm); (case k4 => k_asm); (case k5 => k_asm); (case k6 => k_is); (case k7 => k_is); (case k8 => ktr_room); (case k9 => exact BindsTo.of_eq rfl); (case c5 => decide); (case kB => exact locs rfl); (case c2 => exact rfl); (case c3 => exact rfl); (case c4 => exact rfl); k_whole; intro g' L' h' FG' F' N' B' X' T'; (try dsimp only); (try k_lift B'); (try k_fold))
  k_steps
  all_goals exact ret _ led _ _ (by k_asm) (by first | k_asm | exact news_sub (by k_asm) (by first | exact sub_self | exact sub_more sub_self | exact sub_more (sub_more sub_self) | exact sub_more (sub_more (sub_more sub_self)))) (backB' (by first | rfl | assumption | decide))
def LastTok (w : World) (led : Led) (vs : List Value) : Prop := vs = [] ∨ ∃ pre b d at' k wd t1 t2 t3 t4 t5 t6, vs = pre ++ [Value.ref b] ∧ (b, instObj 192 d) ∈ led ∧ (d, tokObj w k wd at' t1 t2 t3 t4 t5 t6) ∈ led ∧ NoPic k wd
theorem is_picture_next_ok (l : Addr) (n : Nat) (vs : List Value) (h3 : (l, W.listOf vs.toArray n) ∈ led) (hl : LastTok w led vs) (hz : vs.length ≤ 200) : Con w loose mean mg mb 318 4 [.ref l] led (Back led fun _ => .bool false) := by
  rcases hl with rfl | ⟨pre, b, d, at', k, wd, t1, t2, t3, t4, t5, t6, rfl, h4, h5, hp⟩
  · exact is_picture_next_nil l n h3
  · have hpre : pre.length ≤ 200 := by rw [List.length_append, List.length_singleton] at hz; omega
    cases hk : (k == Str.ofString "word") with
    | false => exact is_picture_next_k l b d at' k wd t1 t2 t3 t4 t5 t6 n pre h3 h4 h5 hpre hk
    | true =>
      rcases hp with hp | hp
      · rw [hk] at hp; cases hp
      · exact is_picture_next_w l b d at' k wd t1 t2 t3 t4 t5 t6 n pre h3 h4 h5 hpre hk hp
end
end
theorem flush_17 : True := by
  w_top off
  first | walk1 | trivial
end
theorem flush_18 : True := by
  w_top off
  first | walk1 | trivial
section
open PySem PySem.W PyProof.Rows PySem.Calls
set_option Elab.async false
set_option maxRecDepth 100000
set_option maxHeartbeats 0
theorem con_dep {w : World} {loose : List Str} {mean : ExcName → Option Value} {mg mb : Str → Option Value} {f : Addr} {d d' : Nat} {vs : List Value} {led : Led} {post : Value → Led → Prop} (C : Con w loose mean mg mb f d vs led post) (h : d ≤ d') : Con w loose mean mg mb f d' vs led post :=
  fun dp un gd cn cs a ccd cl outer A₀ base h₀ L m s Q E B F X N T hkf hd hu ret => C dp un gd cn cs a ccd cl outer A₀ base h₀ L m s Q E B F X N T hkf (by omega) (by omega) ret
inductive WorthAt (x : Str) (i : Nat) : Str → Str → Nat → Prop
  | sign (c : Nat) (hi : i < x.length) (hk : c = 45 ∨ c = 43 ∨ c = 42) (hc : Txt.item x (i : Int) = ⟨#[c]⟩) (he : (Txt.slice x (some (i : Int)) (some ((i : Int) + 2)) == Str.ofString "==") = false)
      (hd : (([⟨#[42, 42]⟩, ⟨#[60, 61]⟩, ⟨#[62, 61]⟩] : List Str).any fun y => y == Txt.slice x (some (i : Int)) (some ((i : Int) + 2))) = false) : WorthAt x i (Str.ofString "sign") ⟨#[c]⟩ (i + 1)
  | num (p r c : Nat) (hi : i < x.length) (hk : 48 ≤ c ∧ c ≤ 57) (hc : Txt.item x (i : Int) = ⟨#[c]⟩) (hw : Run x (Str.ofString "ABCDEFGHIJKLMNOPQRSTUVWXYZ0123456789-") (i : Int) p) (hpr : p ≤ r) (hn : NumEnd x i r) (hap : Apart x r)
      (hq : (Txt.replace (Txt.slice x (some (i : Int)) (some (r : Int))) (Str.ofString ".") (Str.ofString "")).length ≤ 18) : WorthAt x i (Str.ofString "number") (Txt.slice x (some (i : Int)) (some (r : Int))) r
  | dot (r : Nat) (hi : (i : Int) + 1 < x.length) (hc : Txt.item x (i : Int) = ⟨#[46]⟩) (hs2 : (Txt.slice x (some ((i : Int) + 1)) (some ((i : Int) + 2)) != Str.ofString "") = true)
      (hin : (Builtin.Str.occurrences (Str.ofString "0123456789") (Txt.item x ((i : Int) + 1)) 0 (Str.ofString "0123456789").length 1).isEmpty = false) (hr : Run x (Str.ofString "0123456789") ((i : Int) + 1) r) (hap : Apart x r)
      (hq : (Txt.replace (Txt.slice x (some (i : Int)) (some (r : Int))) (Str.ofString ".") (Str.ofString "")).length ≤ 18) : WorthAt x i (Str.ofString "number") (Txt.slice x (some (i : Int)) (some (r : Int))) r
  | word (hi : i < x.length) (hc : Txt.item x (i : Int) = ⟨#[65]⟩) (hw : Run x (Str.ofString "ABCDEFGHIJKLMNOPQRSTUVWXYZ0123456789-") (i : Int) (i + 1)) (hn : NumEnd x i i) (hap : Apart x (i + 1))
      (hq : Txt.slice x (some (i : Int)) (some ((i + 1 : Nat) : Int)) = Str.ofString "A") : WorthAt x i (Str.ofString "word") (Str.ofString "A") (i + 1)
section
variable {w : World} {loose : List Str} {mean : ExcName → Option Value} {mg mb : Str → Option Value} {led : Led}
theorem worth_at_ok (ln dx pl : Addr) (tk tk1 tk2 : Tok) (x : Str) (h1 : (ln, instObj 162 dx) ∈ led) (h2 : (dx, lineObj w tk tk1 tk2 x pl) ∈ led) (i e : Nat) (k wd : Str) (u : Tok) (hlen : x.length ≤ 200) (hx : Low x) (h : WorthAt x i k wd e) :
    Con w loose mean mg mb 304 14 [.ref ln, .int i u] led (BackT led fun t1 t2 t3 => [.str k t1, .str wd t2, .int (e : Int) t3]) := by
  cases h with
  | sign c hi hk hc he hd => exact con_dep (worth_at_sign ln dx pl tk tk1 tk2 x h1 h2 i c u hlen hx hi hk hc he hd) (by omega)
  | num p r c hi hk hc hw hpr hn hap hq => exact con_dep (worth_at_num ln dx pl tk tk1 tk2 x h1 h2 i p _ c u hlen hx hi hk hc hw hpr hn hap hq) (by omega)
  | dot r hi hc hs2 hin hr hap hq => exact con_dep (worth_at_dot ln dx pl tk tk1 tk2 x h1 h2 i _ u hlen hx hi hc hs2 hin hr hap hq) (by omega)
  | word hi hc hw hn hap hq => exact worth_at_word ln dx pl tk tk1 tk2 x h1 h2 i u hlen hx hi hc hw hn hap hq
theorem worthAt_lt {x : Str} {i e : Nat} {k wd : Str} (h : WorthAt x i k wd e) : i < x.length := by
  cases h with
  | sign c hi => exact hi
  | num p r c hi => exact hi
  | dot r hi => omega
  | word hi => exact hi
theorem worthAt_noPic {x : Str} {i e : Nat} {k wd : Str} (h : WorthAt x i k wd e) : NoPic k wd := by
  cases h with
  | sign => exact .inl (by decide +kernel)
  | num => exact .inl (by decide +kernel)
  | dot => exact .inl (by decide +kernel)
  | word => exact .inr (by decide +kernel)
theorem worthAt_char {x : Str} {i e : Nat} {k wd : Str} (h : WorthAt x i k wd e) : ∃ c, (c ≠ 32 ∧ c ≠ 44 ∧ c ≠ 59) ∧ Txt.item x (i : Int) = ⟨#[c]⟩ := by
  cases h with
  | sign c hi hk hc => exact ⟨c, by omega, hc⟩
  | num p r c hi hk hc => exact ⟨c, by omega, hc⟩
  | dot r hi hc => exact ⟨46, by omega, hc⟩
  | word hi hc => exact ⟨65, by omega, hc⟩
inductive It
  | blank
  | tok (k wd : Str) (e : Nat)
def TextFrom (x : Str) : Nat → List It → Prop
  | i, [] => i = x.length
  | i, .blank :: r => i < x.length ∧ Txt.item x (i : Int) = ⟨#[32]⟩ ∧ TextFrom x (i + 1) r
  | i, .tok k wd e :: r => WorthAt x i k wd e ∧ TextFrom x e r
def toksOf : List It → List (Str × Str)
  | [] => []
  | .blank :: r => toksOf r
  | .tok k wd _ :: r => (k, wd) :: toksOf r
def PlaceAt (led : Led) (pits : List Value) (i : Nat) : Prop := ∃ b t1 t2, pits[i]? = some (.ref b) ∧ (b, tupObj [.int 1 t1, .int (12 + (i : Int)) t2]) ∈ led
end
end
theorem flush_19 : True := by
  w_top off
  first | walk1 | trivial
section
open PySem PySem.W PyProof.Rows
set_option Elab.async false
abbrev S (l : List Nat) : Str := ⟨l.toArray⟩
def clipN (n : Nat) (v : Option Int) (d : Nat) : Nat := match v with
  | none => d
  | some i => (max 0 (min (if i < 0 then i + (n : Int) else i) (n : Int))).toNat
theorem range_get (l : List Nat) : ∀ (c a : Nat), ((List.range c).map (fun k : Nat => a + k)).filterMap (l.toArray[·]?) = (l.drop a).take c
  | 0, a => by simp
  | c + 1, a => by
    rw [List.range_succ_eq_map, List.map_cons, List.map_map]
    have ih := range_get l c (a + 1)
    have e : ((fun k : Nat => a + k) ∘ Nat.succ) = fun k : Nat => a + 1 + k := by funext k; simp only [Function.comp]; omega
    rw [e, List.filterMap_cons, ih]
    by_cases h : a < l.length
    · rw [List.drop_eq_getElem_cons h, List.take_succ_cons]
      simp [h]
    · have h1 : l.drop a = [] := List.drop_eq_nil_of_le (by omega)
      have h2 : l.drop (a + 1) = [] := List.drop_eq_nil_of_le (by omega)
      rw [h1, h2]
      simp [h]
theorem clipN_le {n d : Nat} {v : Option Int} (h : d ≤ n) : clipN n v d ≤ n := by
  unfold clipN
  split
  · exact h
  · omega
theorem sliceRange_one (a b : Nat) : sliceRange (a : Int) (b : Int) 1 = (List.range (b - a)).map (fun k : Nat => a + k) := by
  unfold sliceRange
  simp only [show (1 : Int) > 0 by decide, if_true, Int.ediv_one, Int.one_mul]
  have e : (if (a : Int) < b then (b : Int) - a + 1 - 1 else 0).toNat = b - a := by split <;> omega
  rw [e]
  refine List.map_congr_left fun k _ => ?_
  omega
theorem indices_eq (lo hi : Option Int) (n : Nat) : Builtin.Str.strSliceIndices lo hi 1 n = (List.range (clipN n hi n - clipN n lo 0)).map (fun k : Nat => clipN n lo 0 + k) := by
  rw [← sliceRange_one]
  unfold Builtin.Str.strSliceIndices clipN
  simp only [show (1 : Int) > 0 by decide, if_true]
  congr 1
  · cases lo with
    | none => rfl
    | some i => simp only; omega
  · cases hi with
    | none => rfl
    | some i => simp only; omega
theorem slice_eq (l : List Nat) (lo hi : Option Int) : Txt.slice (S l) lo hi = S ((l.take (clipN l.length hi l.length)).drop (clipN l.length lo 0)) := by
  have hl : (S l).length = l.length := by show l.toArray.size = _; simp
  have hb : clipN l.length hi l.length ≤ l.length := clipN_le (Nat.le_refl _)
  have ha : clipN l.length lo 0 ≤ l.length := clipN_le (Nat.zero_le _)
  unfold Txt.slice
  rw [hl, indices_eq]
  simp only [List.length_map, List.length_range, beq_self_eq_true, Bool.true_and, beq_iff_eq]
  split
  · rename_i h
    have h1 : clipN l.length lo 0 = 0 := by omega
    have h2 : clipN l.length hi l.length = l.length := by omega
    rw [h1, h2, List.take_length, List.drop_zero]
  · rw [range_get, List.drop_take]
theorem clip_nat (i n : Nat) : (max 0 (min (if (i : Int) < 0 then (i : Int) + (n : Int) else i) (n : Int))).toNat = min i n := by
  rw [if_neg (Int.not_lt.mpr (Int.natCast_nonneg i))]
  rcases Nat.le_total i n with h | h
  · rw [Int.min_eq_left (Int.ofNat_le.mpr h), Int.max_eq_right (Int.natCast_nonneg i), Nat.min_eq_left h]; rfl
  · rw [Int.min_eq_right (Int.ofNat_le.mpr h), Int.max_eq_right (Int.natCast_nonneg n), Nat.min_eq_right h]; rfl
theorem clip_neg (k n : Nat) (hk : 0 < k) : (max 0 (min (if -(k : Int) < 0 then -(k : Int) + (n : Int) else -(k : Int)) (n : Int))).toNat = n - k := by
  rw [if_pos (Int.neg_neg_of_pos (Int.ofNat_lt.mpr hk)), Int.min_eq_left (by omega), Int.add_comm, ← Int.sub_eq_add_neg]
  rcases Nat.le_total k n with h | h
  · rw [Int.max_eq_right (Int.sub_nonneg_of_le (Int.ofNat_le.mpr h)), Int.toNat_sub]
  · rw [Int.max_eq_left (Int.sub_nonpos_of_le (Int.ofNat_le.mpr h)), Nat.sub_eq_zero_of_le h]; rfl
theorem slice_nat (l : List Nat) (i j : Nat) : Txt.slice (S l) (some (i : Int)) (some (j : Int)) = S ((l.take j).drop i) := by
  rw [slice_eq]
  unfold clipN
  simp only
  have e1 : (max 0 (min (if (i : Int) < 0 then (i : Int) + (l.length : Int) else i) (l.length : Int))).toNat = min i l.length := clip_nat _ _
  have e2 : (max 0 (min (if (j : Int) < 0 then (j : Int) + (l.length : Int) else j) (l.length : Int))).toNat = min j l.length := clip_nat _ _
  rw [e1, e2, ← List.take_eq_take_min]
  by_cases h : i ≤ l.length
  · rw [Nat.min_eq_left h]
  · have a1 : (l.take j).drop (min i l.length) = [] := List.drop_eq_nil_of_le (by rw [List.length_take, Nat.min_eq_right (Nat.le_of_lt (Nat.lt_of_not_le h))]; exact Nat.min_le_right _ _)
    have a2 : (l.take j).drop i = [] := List.drop_eq_nil_of_le (by rw [List.length_take]; exact Nat.le_trans (Nat.min_le_right _ _) (Nat.le_of_lt (Nat.lt_of_not_le h)))
    rw [a1, a2]
theorem slice_from (l : List Nat) (i : Nat) : Txt.slice (S l) (some (i : Int)) none = S (l.drop i) := by
  rw [slice_eq]
  unfold clipN
  simp only [List.take_length]
  have e1 : (max 0 (min (if (i : Int) < 0 then (i : Int) + (l.length : Int) else i) (l.length : Int))).toNat = min i l.length := clip_nat _ _
  rw [e1]
  by_cases h : i ≤ l.length
  · rw [Nat.min_eq_left h]
  · rw [Nat.min_eq_right (by omega), List.drop_length, List.drop_eq_nil_of_le (by omega)]
theorem slice_to (l : List Nat) (j : Nat) : Txt.slice (S l) none (some (j : Int)) = S (l.take j) := by
  rw [slice_eq]
  unfold clipN
  simp only [List.drop_zero]
  have e2 : (max 0 (min (if (j : Int) < 0 then (j : Int) + (l.length : Int) else j) (l.length : Int))).toNat = min j l.length := clip_nat _ _
  rw [e2, ← List.take_eq_take_min]
theorem slice_last (l : List Nat) (k : Nat) (hk : 0 < k) : Txt.slice (S l) (some (-(k : Int))) none = S (l.drop (l.length - k)) := by
  rw [slice_eq]
  unfold clipN
  simp only [List.take_length]
  have e1 : (max 0 (min (if -(k : Int) < 0 then -(k : Int) + (l.length : Int) else -(k : Int)) (l.length : Int))).toNat = l.length - k := clip_neg _ _ hk
  rw [e1]
theorem slice_butlast (l : List Nat) (k : Nat) (hk : 0 < k) : Txt.slice (S l) none (some (-(k : Int))) = S (l.take (l.length - k)) := by
  rw [slice_eq]
  unfold clipN
  simp only [List.drop_zero]
  have e1 : (max 0 (min (if -(k : Int) < 0 then -(k : Int) + (l.length : Int) else -(k : Int)) (l.length : Int))).toNat = l.length - k := clip_neg _ _ hk
  rw [e1]
theorem len_S (l : List Nat) : (S l).length = l.length := by show l.toArray.size = _; simp
theorem S_inj {a b : List Nat} : (S a == S b) = decide (a = b) := by
  rw [Bool.eq_iff_iff, beq_iff_eq, decide_eq_true_iff]
  constructor
  · intro h
    have := congrArg (fun y : Str => y.cps.toList) h
    simpa using this
  · rintro rfl; rfl
theorem S_app (a b : List Nat) : S a ++ S b = S (a ++ b) := by
  show (⟨a.toArray ++ b.toArray⟩ : Str) = _
  simp
theorem item_S {l : List Nat} {i c : Nat} (h : l[i]? = some c) : Txt.item (S l) (i : Int) = ⟨#[c]⟩ := by
  have hi : i < l.length := by
    rcases Nat.lt_or_ge i l.length with h1 | h1
    · exact h1
    · rw [List.getElem?_eq_none h1] at h; cases h
  unfold Txt.item Txt.charAt seqIndex?
  have hl := len_S l
  simp only [show ¬ (i : Int) < 0 by omega, if_false]
  rw [if_pos (by rw [hl]; simp; omega)]
  simp [h]
end
theorem flush_20 : True := by
  w_top off
  first | walk1 | trivial
section
open PySem PySem.W PyProof.Rows
set_option Elab.async false
open Builtin Builtin.Str
section
variable {prog : Program} {w : World} {A : Around} {E : Value → Shared → Prop} {s : Shared} {x y z : Str} {t u v q : Tok} {Q : Value → Shared → Prop}
theorem gives_replace4 (x y z : Str) (t u v q : Tok) (k : Int) (hk : (decide (k < -(2 ^ 63 : Int)) || decide (k ≥ 2 ^ 63)) = false) (h0 : (u == 0 || v == 0) = false) (huv : (u == v) = false) (hyz : (y == z) = false)
    (hc : ((occurrences x y 0 x.length (limitOf x k)).isEmpty || (y.length == 0 && z.length == 0)) = false) (hl : tooLong (x.length + (occurrences x y 0 x.length (limitOf x k)).length * z.length) = false) :
    Gives («str.replace» ⟨[.str x t, .str y u, .str z v, .int k q], []⟩) (.str (glued z (partsBetween x (occurrences x y 0 x.length (limitOf x k)) y.length))) := by
  show Gives (do
      let limit ← countLimit "str.replace" (some (.int k q)) (x.length + 1)
      (if ((occurrences x y 0 x.length limit).isEmpty || (y.length == 0 && z.length == 0)) = true then (do rule "str.replace.nothing"; ret (.str x t)) else
          (do let same ← isSame (.str y u) (.str z v)
              if same = true then (do rule "str.replace.old-is-new"; ret (.str x t)) else
              if tooLong (x.length + (occurrences x y 0 x.length limit).length * z.length) = true then unsupported "str.replace:memory" else
              retStr (glued z (partsBetween x (occurrences x y 0 x.length limit) y.length))))) _
  rw [countLimit_int "str.replace" k q (x.length + 1) hk]
  show Gives (if ((occurrences x y 0 x.length (limitOf x k)).isEmpty || (y.length == 0 && z.length == 0)) = true then (do rule "str.replace.nothing"; ret (.str x t)) else
          (do let same ← isSame (.str y u) (.str z v)
              if same = true then (do rule "str.replace.old-is-new"; ret (.str x t)) else
              if tooLong (x.length + (occurrences x y 0 x.length (limitOf x k)).length * z.length) = true then unsupported "str.replace:memory" else
              retStr (glued z (partsBetween x (occurrences x y 0 x.length (limitOf x k)) y.length)))) _
  rw [hc, isSame_str_other y z u v h0 huv hyz, hl]
  exact .of_eq rfl
theorem replace4 {k : Int} {r : Str} (hk : 0 ≤ k) (hk2 : k ≤ 1000) (hu : u ≠ 0) (hv : v ≠ 0) (huv : u ≠ v) (hyz : (y == z) = false)
    (hc : ((occurrences x y 0 x.length k.toNat).isEmpty || (y.length == 0 && z.length == 0)) = false) (hr : glued z (partsBetween x (occurrences x y 0 x.length k.toNat) y.length) = r) (hx : x.length ≤ 1000) (hz : z.length ≤ 100) (hrl : r.length ≤ 1000)
    (hq : ∀ t' k', Q (.str r t') { s with toks := k' }) : wpAny (model prog w) A (call (.builtin "str.replace") [.str x t, .str y u, .str z v, .int k q]) Q E s := by
  have e : limitOf x k = k.toNat := by unfold limitOf; rw [if_neg (by omega)]
  refine call_gives F.slot_str_replace (typeIs_str _ _ _) F.entry_str_replace (F.args_str_replace_4 _ _ _ _)
    (gives_replace4 x y z t u v q k (by simp; omega) (by simp [hu, hv]) (by simp [huv]) hyz (by rw [e]; exact hc) ?_) ?_
  · rw [e]
    have h1 := StrLaws.occ_length_le x y 0 x.length k.toNat
    have h2 : (occurrences x y 0 x.length k.toNat).length * z.length ≤ 1000 * 100 := Nat.mul_le_mul (by omega) hz
    unfold tooLong sizeLine
    exact decide_eq_false (by omega)
  · rw [e, hr]
    exact ⟨by rw [sizeLine_eq]; omega, hq _ _⟩
end
end
theorem flush_21 : True := by
  w_top off
  first | walk1 | trivial
section
open PySem PySem.W PyProof.Rows
set_option Elab.async false
open Builtin Builtin.Str
def digs (n : Nat) : List Nat := (Nat.toDigits 10 n).map Char.toNat
theorem str_ofList (l : List Char) : Str.ofString (String.ofList l) = S (l.map Char.toNat) := by
  rw [Str.ofString_eq_toList, String.toList_ofList]
theorem str_digs (n : Nat) : Str.ofString (toString (n : Int)) = S (digs n) := by
  show Str.ofString (String.ofList (Nat.toDigits 10 n)) = _
  exact str_ofList _
theorem digit_of {c : Char} (h : c.isDigit = true) : 48 ≤ c.toNat ∧ c.toNat ≤ 57 := by
  simp only [Char.isDigit, Bool.and_eq_true, decide_eq_true_eq] at h
  exact ⟨h.1, h.2⟩
def IsDig (c : Nat) : Prop := 48 ≤ c ∧ c ≤ 57
theorem digs_dig {n c : Nat} (h : c ∈ digs n) : IsDig c := by
  obtain ⟨d, hd, rfl⟩ := List.mem_map.mp h
  exact digit_of (Nat.isDigit_of_mem_toDigits (by decide) (by decide) hd)
theorem digs_pos (n : Nat) : 0 < (digs n).length := by
  unfold digs
  rw [List.length_map]
  exact Nat.length_toDigits_pos
theorem digs_le {n k : Nat} (hk : 0 < k) : (digs n).length ≤ k ↔ n < 10 ^ k := by
  unfold digs
  rw [List.length_map]
  exact Nat.length_toDigits_le_iff (by decide) hk
def valOf (l : List Nat) : Nat := l.foldl (fun v c => v * 10 + (c - 48)) 0
theorem foldl_val (l : List Nat) : ∀ a, l.foldl (fun v c => v * 10 + (c - 48)) a = a * 10 ^ l.length + valOf l := by
  induction l with
  | nil => intro a; simp [valOf]
  | cons c r ih =>
    intro a
    have e := ih (a * 10 + (c - 48))
    have e2 := ih (0 * 10 + (c - 48))
    unfold valOf at *
    rw [List.foldl_cons, e, List.foldl_cons, e2, List.length_cons, Nat.pow_succ]
    rw [Nat.add_mul, Nat.zero_mul, Nat.zero_add, Nat.mul_assoc, Nat.mul_comm 10, Nat.add_assoc]
theorem valOf_app (a b : List Nat) : valOf (a ++ b) = valOf a * 10 ^ b.length + valOf b := by
  unfold valOf
  rw [List.foldl_append, foldl_val]
  rfl
theorem digitChar_val {d : Nat} (h : d < 10) : d.digitChar.toNat = 48 + d := by
  exact (by decide +kernel : ∀ d, d < 10 → d.digitChar.toNat = 48 + d) d h
theorem digs_val : ∀ n : Nat, valOf (digs n) = n := by
  intro n
  induction n using Nat.strongRecOn with
  | _ n ih =>
    by_cases h : n < 10
    · unfold digs
      rw [Nat.toDigits_of_lt_base h]
      simp [valOf, digitChar_val h]
    · have e : digs n = digs (n / 10) ++ [48 + n % 10] := by
        unfold digs
        rw [Nat.toDigits_of_base_le (by decide) (by omega), List.map_append, List.map_singleton, digitChar_val (Nat.mod_lt _ (by decide))]
      rw [e, valOf_app, ih (n / 10) (by omega)]
      simp [valOf]
      omega
theorem valOf_zeros (k : Nat) (l : List Nat) : valOf (List.replicate k 48 ++ l) = valOf l := by
  rw [valOf_app]
  have e : valOf (List.replicate k 48) = 0 := by
    induction k with
    | zero => rfl
    | succ k ih =>
      rw [List.replicate_succ]
      unfold valOf at *
      rw [List.foldl_cons]
      exact ih
  rw [e, Nat.zero_mul, Nat.zero_add]
theorem subAt_S (l sub : List Nat) (i : Nat) : subAt (S l) (S sub) i = decide ((l.drop i).take sub.length = sub) := by
  unfold subAt
  rw [len_S, Bool.eq_iff_iff, beq_iff_eq, decide_eq_true_iff, ← Array.toList_inj]
  simp [List.extract]
theorem occ1_of (l sub : List Nat) (i : Nat) (h1 : i + sub.length ≤ l.length) (h2 : (l.drop i).take sub.length = sub) (h3 : ∀ k, k < i → (l.drop k).take sub.length ≠ sub) : occurrences (S l) (S sub) 0 (S l).length 1 = [i] := by
  rcases StrLaws.occ_head (S l) (S sub) 1 (Nat.le_refl _) with ⟨_, hn⟩ | ⟨j, r, e, hj, hn⟩
  · refine absurd ?_ (hn i)
    refine ⟨by rw [len_S, len_S]; exact h1, ?_⟩
    rw [subAt_S, decide_eq_true_iff]
    exact h2
  · have hlen := StrLaws.occ_length_le (S l) (S sub) 0 (S l).length 1
    rw [e] at hlen
    have hr : r = [] := by
      cases r with
      | nil => rfl
      | cons a b => simp at hlen
    have hji : j = i := by
      rcases Nat.lt_trichotomy j i with h | h | h
      · have := hj.2
        rw [subAt_S, decide_eq_true_iff] at this
        exact absurd this (h3 j h)
      · exact h
      · refine absurd ?_ (hn i h)
        refine ⟨by rw [len_S, len_S]; exact h1, ?_⟩
        rw [subAt_S, decide_eq_true_iff]
        exact h2
    rw [e, hr, hji]
theorem occ1_none (l sub : List Nat) (h3 : ∀ k, k + sub.length ≤ l.length → (l.drop k).take sub.length ≠ sub) : occurrences (S l) (S sub) 0 (S l).length 1 = [] := by
  rcases StrLaws.occ_head (S l) (S sub) 1 (Nat.le_refl _) with ⟨e, _⟩ | ⟨j, r, e, hj, hn⟩
  · exact e
  · have h2 := hj.2
    have h1 := hj.1
    rw [subAt_S, decide_eq_true_iff] at h2
    rw [len_S, len_S] at h1
    exact absurd h2 (h3 j h1)
theorem occ1_point (a b : List Nat) (c : Nat) (h : c ∉ a) : occurrences (S (a ++ c :: b)) (S [c]) 0 (S (a ++ c :: b)).length 1 = [a.length] := by
  refine occ1_of _ _ _ (by simp) (by simp) fun k hk e => h ?_
  rw [List.drop_append_of_le_length (by omega), List.drop_eq_getElem_cons hk, List.cons_append, List.length_singleton, List.take_succ_cons] at e
  have e' : a[k] = c := (List.cons.inj e).1
  have hm := List.getElem_mem hk
  rw [e'] at hm
  exact hm
theorem replace_len (l : List Nat) (c : Nat) : (Txt.replace (S l) (S [c]) (S [])).length ≤ l.length ∧ (c ∈ l → (Txt.replace (S l) (S [c]) (S [])).length < l.length) := by
  have hin := StrLaws.found_one (S l) c
  have hhd := StrLaws.occ_head (S l) (S [c]) ((S l).length + 1) (by omega)
  have hy : (glued (S [c]) (partsBetween (S l) (occurrences (S l) (S [c]) 0 (S l).length ((S l).length + 1)) (S [c]).length)).length = (S l).length := by rw [StrLaws.glued_between_self]
  rw [size_glued, length_partsBetween, Nat.add_sub_cancel, len_S, len_S] at hy
  unfold Txt.replace
  split
  · rename_i h
    refine ⟨by rw [len_S]; exact Nat.le_refl _, fun hc => ?_⟩
    exfalso
    have hc1 : (!(occurrences (S l) (S [c]) 0 (S l).length 1).isEmpty) = true := by rw [show S [c] = ⟨#[c]⟩ from rfl, hin]; simpa using hc
    obtain ⟨i, h1, h2⟩ := (StrLaws.found_iff _ _).mp hc1
    rcases hhd with ⟨_, hn⟩ | ⟨j, r, e, _, _⟩
    · exact hn i ⟨h1, h2⟩
    · rw [e] at h
      simp [len_S] at h
  · rename_i h
    rw [size_glued, length_partsBetween, Nat.add_sub_cancel, len_S, len_S]
    have hz : (S []).length = 0 := rfl
    have h1 : [c].length = 1 := rfl
    rw [h1] at hy ⊢
    rw [hz, Nat.mul_zero]
    have hne : (occurrences (S l) (S [c]) 0 (S l).length ((S l).length + 1)) ≠ [] := by
      intro e
      have e' : (occurrences (S l) (S [c]) 0 (S l).length ((S l).length + 1)).isEmpty = true := by rw [e]; rfl
      rw [e'] at h
      simp at h
    have := List.length_pos_iff.mpr hne
    rw [len_S] at this
    constructor
    · omega
    · intro _; omega
end
theorem flush_22 : True := by
  w_top off
  first | walk1 | trivial
section
open PySem PySem.W PyProof.Rows
set_option Elab.async false
open Builtin Builtin.Str
def fig (n s : Nat) : List Nat := List.replicate (s + 1 - (digs n).length) 48 ++ digs n
def aheadOf (n s : Nat) : List Nat := if s = 18 then [] else (fig n s).take ((fig n s).length - s)
def behindOf (n s : Nat) : List Nat := (fig n s).drop ((fig n s).length - s)
def ntx (n s : Nat) : List Nat := if s = 0 then digs n else aheadOf n s ++ 46 :: behindOf n s
theorem fig_len (n s : Nat) : s + 1 ≤ (fig n s).length := by
  unfold fig
  rw [List.length_append, List.length_replicate]
  omega
theorem fig_dig {n s c : Nat} (h : c ∈ fig n s) : IsDig c := by
  rcases List.mem_append.mp h with h | h
  · have := List.eq_of_mem_replicate h
    subst this
    exact ⟨by omega, by omega⟩
  · exact digs_dig h
theorem fig_val (n s : Nat) : valOf (fig n s) = n := by
  unfold fig
  rw [valOf_zeros, digs_val]
theorem behind_len (n s : Nat) : (behindOf n s).length = s := by
  have := fig_len n s
  unfold behindOf
  rw [List.length_drop]
  omega
structure Shape (l : List Nat) (n s : Nat) (a b : List Nat) : Prop where
  whole : s = 0 → l = a ∧ b = []
  parted : s ≠ 0 → l = a ++ 46 :: b
  da : ∀ c ∈ a, IsDig c
  db : ∀ c ∈ b, IsDig c
  lb : b.length = s
  val : valOf (a ++ b) = n
  lab : a.length + b.length ≤ 18
  emp : a = [] → s = 18
theorem shape_ntx {n s : Nat} (hn : n < 10 ^ 18) (hs : s ≤ 18) : ∃ a b, Shape (ntx n s) n s a b := by
  have hd : (digs n).length ≤ 18 := (digs_le (by decide)).mpr hn
  have hp := digs_pos n
  by_cases h0 : s = 0
  · subst h0
    refine ⟨digs n, [], ⟨fun _ => ⟨by simp [ntx], rfl⟩, fun h => absurd rfl h, fun c hc => digs_dig hc, fun c hc => (nomatch hc), rfl, by rw [List.append_nil, digs_val], by simpa using hd, fun e => ?_⟩⟩
    rw [e] at hp
    simp at hp
  · have hf := fig_len n s
    have hfl : (fig n s).length ≤ 19 := by
      unfold fig
      rw [List.length_append, List.length_replicate]
      omega
    have hfl2 : s ≠ 18 → (fig n s).length ≤ 18 := by
      intro h
      unfold fig
      rw [List.length_append, List.length_replicate]
      omega
    refine ⟨aheadOf n s, behindOf n s, ⟨fun h => absurd h h0, fun _ => by simp [ntx, h0], fun c hc => ?_, fun c hc => fig_dig (List.mem_of_mem_drop hc), behind_len n s, ?_, ?_, fun e => ?_⟩⟩
    · unfold aheadOf at hc
      split at hc
      · cases hc
      · exact fig_dig (List.mem_of_mem_take hc)
    · unfold aheadOf
      split
      · rename_i h
        have h1 : fig n s = 48 :: behindOf n s := by
          subst h
          have e : fig n 18 = 48 :: (fig n 18).drop 1 := by
            have e1 : 18 + 1 - (digs n).length = (18 - (digs n).length) + 1 := by omega
            unfold fig
            rw [e1, List.replicate_succ]
            rfl
          have e2 : (fig n 18).length - 18 = 1 := by
            have : (fig n 18).length = 19 := by omega
            omega
          unfold behindOf
          rw [e2]
          exact e
        have h2 := fig_val n s
        rw [h1] at h2
        simpa [valOf] using h2
      · unfold behindOf
        rw [List.take_append_drop]
        exact fig_val n s
    · have hb := behind_len n s
      unfold aheadOf
      split
      · simp; omega
      · rename_i h
        have := hfl2 h
        rw [List.length_take, hb]
        omega
    · unfold aheadOf at e
      split at e
      · assumption
      · exfalso
        have := congrArg List.length e
        rw [List.length_take] at this
        simp at this
        omega
end
theorem flush_23 : True := by
  w_top off
  first | walk1 | trivial
section
open PySem PySem.W PyProof.Rows PySem.Calls
set_option Elab.async false
set_option maxRecDepth 100000
set_option maxHeartbeats 0
section
variable {prog : Program} {w : World} {A : Around} {E : Value → Shared → Prop} {s : Shared} {env : Env} {h₀ : Heap} {x : Str} {body : List Stmt} {Q : Flow → Shared → Prop}
def TextTurn (h₀ : Heap) (L : Addr) (news : Led) (Inv : Nat → (Str → Option Value) → Prop) (Q : Flow → Shared → Prop) (s₁ : Shared) (I : Addr) (i : Nat) (f : Flow) (s₂ : Shared) : Prop :=
  match f with
  | .ret v => Q (.ret v) s₂
  | .brk => Q .next s₂
  | _ => ∃ h' tk m' all, s₂ = { s₁ with heap := h', toks := tk } ∧ Fr h₀ L h' m' ∧ News h₀ L h' all ∧ (∀ p ∈ news, p ∈ all) ∧ (∃ it : Obj, (I, it) ∈ all ∧ s₁.heap.get? I = some it) ∧ Inv (i + 1) m'
theorem iter_text {tx : Str} {t : Tok} {m₀ : Str → Option Value} {news : Led} (Inv : Nat → (Str → Option Value) → Prop) (ha : tx.cps.all (· < 128) = true) (hh : A.handled = none) (F : Fr h₀ env.locals s.heap m₀) (N : News h₀ env.locals s.heap news) (start : Inv 0 m₀)
    (turn : ∀ (I : Addr) (it : Obj) i m h tk t', (∀ p ∈ news, p.1 < I) → i < tx.cps.size → Inv i m → Fr h₀ env.locals h (fun y => if y = x then some (.str (Txt.item tx (i : Int)) t') else m y) → News h₀ env.locals h ((I, it) :: news) →
      wpAny (model prog w) A (execs body env) (TextTurn h₀ env.locals ((I, it) :: news) Inv Q { s with heap := h, toks := tk } I i) E { s with heap := h, toks := tk })
    (fin : ∀ m h tk, Inv tx.cps.size m → Fr h₀ env.locals h m → News h₀ env.locals h news → Q .next { s with heap := h, toks := tk }) :
    wpAny (model prog w) A (pyIter (.str tx t)) (fun it s₂ => LoopAtV prog w A h₀ env x body Q E it s₂) E s := by
  refine wpAny_pyIter_ascii ha ?_
  have W := text_walks (prog := prog) (w := w) (I := s.heap.objs.size) hh tx t
  have hnew := next_is_new F
  have hI : ∀ p ∈ news, p.1 < s.heap.objs.size := fun p hp => Heap.lt_size (N p hp).1
  refine ⟨_, _, _, tx.cps.size, _, _, m₀, news, fun i m₁ news₁ => Inv i m₁ ∧ news₁ = news, rfl, W, ?_, ?_, ?_, ⟨_, Heap.get?_push_size _ rfl, rfl, rfl⟩, F.push _, (fun p hp => ⟨Heap.get?_push_of_some _ (N p hp).1, (N p hp).2⟩), ⟨start, rfl⟩, ?_, ?_⟩
  · intro hm
    exact absurd F.ns.lt ((List.mem_singleton.mp hm) ▸ Nat.lt_irrefl _)
  · intro b hb
    rw [List.mem_singleton.mp hb]
    exact hnew
  · intro p hp hq
    exact absurd (hI p hp) ((List.mem_singleton.mp hq) ▸ Nat.lt_irrefl _)
  · rintro i v m₁ news₁ s₁ own ⟨hh', tk', rfl⟩ hin ⟨t', rfl⟩ ⟨hJ, rfl⟩ hoff hown hget hall hst F₁ N₁
    obtain ⟨it, hit, _⟩ := hst
    have hmemI := hall s.heap.objs.size (List.mem_cons_self ..) hnew _ hit
    have N₂ : News h₀ env.locals hh' ((s.heap.objs.size, it) :: news₁) := fun p hp => by
      rcases List.mem_cons.mp hp with rfl | hp
      · exact N₁ _ (List.mem_append_left _ hmemI)
      · exact N₁ _ (List.mem_append_right _ hp)
    refine wpAny_mono (turn s.heap.objs.size it i m₁ hh' tk' t' hI hin hJ F₁ N₂) (fun f s₂ p => ?_) fun _ _ e => e
    have fin2 : (∃ h' tk m' all, s₂ = { ({ s with heap := hh', toks := tk' } : Shared) with heap := h', toks := tk } ∧ Fr h₀ env.locals h' m' ∧ News h₀ env.locals h' all ∧ (∀ p ∈ (s.heap.objs.size, it) :: news₁, p ∈ all) ∧ (∃ it' : Obj, (s.heap.objs.size, it') ∈ all ∧ hh'.get? s.heap.objs.size = some it') ∧ Inv (i + 1) m') →
        LoopStepU h₀ env.locals [s.heap.objs.size] own (fun m₁ news₂ => Inv (i + 1) m₁ ∧ news₂ = news₁) { s with heap := hh', toks := tk' } .next s₂ := by
      rintro ⟨h', tk, m', all, e, F', N', hs, ⟨it', hi1, hi2⟩, hJ'⟩
      refine ⟨rfl, h', tk, m', news₁, e, F', fun p hp => ?_, hoff, hJ', rfl⟩
      rcases List.mem_append.mp hp with hp | hp
      · have h1 : p.1 = s.heap.objs.size := List.mem_singleton.mp (hown p hp)
        have h2 : hh'.get? p.1 = some p.2 := hget p hp
        have h3 : p = (s.heap.objs.size, it') := by
          rw [h1, hi2] at h2
          exact Prod.ext h1 (Option.some.inj h2).symm
        rw [h3]; exact N' _ hi1
      · exact N' _ (hs _ (List.mem_cons_of_mem _ hp))
    cases f with
    | ret v => exact .ret p
    | brk => exact .brk p
    | next => exact .next (fin2 p)
    | cont => exact .cont (fin2 p)
  · rintro h' tk m' news' F' N' _ ⟨hJ, rfl⟩
    exact fin m' h' tk hJ F' N'
def RangeTurn (h₀ : Heap) (L : Addr) (news : Led) (Inv : Nat → (Str → Option Value) → Prop) (Q : Flow → Shared → Prop) (s₁ : Shared) (i : Nat) (f : Flow) (s₂ : Shared) : Prop :=
  match f with
  | .ret v => Q (.ret v) s₂
  | .brk => Q .next s₂
  | _ => ∃ h' tk m' all, s₂ = { s₁ with heap := h', toks := tk } ∧ Fr h₀ L h' m' ∧ News h₀ L h' all ∧ (∀ p ∈ news, p ∈ all) ∧ Inv (i + 1) m'
theorem iter_range {r : Addr} {a₀ b₀ : Int} {t₀ u₀ v₀ : Tok} {n : Nat} {m₀ : Str → Option Value} {news : Led} (Inv : Nat → (Str → Option Value) → Prop) (hr : IsRange s.heap r a₀ b₀ 1 t₀ u₀ v₀) (hsmall : Builtin.Range.small a₀ b₀ 1 = true) (hn : Builtin.Range.rangeSize a₀ b₀ 1 = (n : Int))
    (hh : A.handled = none) (F : Fr h₀ env.locals s.heap m₀) (N : News h₀ env.locals s.heap news) (start : Inv 0 m₀)
    (turn : ∀ (I : Addr) (it : Obj) i m h tk t', (∀ p ∈ news, p.1 < I) → i < n → Inv i m → Fr h₀ env.locals h (fun y => if y = x then some (.int (a₀ + (i : Int)) t') else m y) → News h₀ env.locals h ((I, it) :: news) →
      wpAny (model prog w) A (execs body env) (RangeTurn h₀ env.locals ((I, it) :: news) Inv Q { s with heap := h, toks := tk } i) E { s with heap := h, toks := tk })
    (fin : ∀ m h tk, Inv n m → Fr h₀ env.locals h m → News h₀ env.locals h news → Q .next { s with heap := h, toks := tk }) :
    wpAny (model prog w) A (pyIter (.ref r)) (fun it s₂ => LoopAtV prog w A h₀ env x body Q E it s₂) E s := by
  refine wpAny_pyIter_range hr hsmall ?_
  have W : Walks prog w A s.heap.objs.size [s.heap.objs.size] [s.heap.objs.size] n (fun i v => i < n ∧ ∃ t, v = .int (a₀ + i * 1) t)
      (fun i h => IsRangeIter h s.heap.objs.size (a₀ + (i : Nat) * 1) ((n : Int) - (i : Nat)) 1) := (Walks.range hh _ a₀ 1 n).bound
  have hnew := next_is_new F
  have hI : ∀ p ∈ news, p.1 < s.heap.objs.size := fun p hp => Heap.lt_size (N p hp).1
  refine ⟨_, _, _, n, _, _, m₀, news, fun i m₁ news₁ => Inv i m₁ ∧ news₁ = news, rfl, W, ?_, ?_, ?_, (by show IsRangeIter _ _ _ _ _; rw [hn]; simpa using Heap.get?_push_size _ rfl), F.push _, (fun p hp => ⟨Heap.get?_push_of_some _ (N p hp).1, (N p hp).2⟩), ⟨start, rfl⟩, ?_, ?_⟩
  · intro hm
    exact absurd F.ns.lt ((List.mem_singleton.mp hm) ▸ Nat.lt_irrefl _)
  · intro b hb
    rw [List.mem_singleton.mp hb]
    exact hnew
  · intro p hp hq
    exact absurd (hI p hp) ((List.mem_singleton.mp hq) ▸ Nat.lt_irrefl _)
  · rintro i v m₁ news₁ s₁ own ⟨hh', tk', rfl⟩ hin ⟨_, t', rfl⟩ ⟨hJ, rfl⟩ hoff hown hget hall hst F₁ N₁
    obtain ⟨it, hst'⟩ : ∃ it, hh'.get? s.heap.objs.size = some it := ⟨_, hst⟩
    have hmemI := hall s.heap.objs.size (List.mem_cons_self ..) hnew _ hst'
    have N₂ : News h₀ env.locals hh' ((s.heap.objs.size, it) :: news₁) := fun p hp => by
      rcases List.mem_cons.mp hp with rfl | hp
      · exact N₁ _ (List.mem_append_left _ hmemI)
      · exact N₁ _ (List.mem_append_right _ hp)
    have F₂ : Fr h₀ env.locals hh' (fun y => if y = x then some (.int (a₀ + (i : Int)) t') else m₁ y) := by
      have e : a₀ + (i : Int) * 1 = a₀ + (i : Int) := by omega
      rw [← e]; exact F₁
    refine wpAny_mono (turn s.heap.objs.size it i m₁ hh' tk' t' hI hin hJ F₂ N₂) (fun f s₂ p => ?_) fun _ _ e => e
    have fin2 : (∃ h' tk m' all, s₂ = { ({ s with heap := hh', toks := tk' } : Shared) with heap := h', toks := tk } ∧ Fr h₀ env.locals h' m' ∧ News h₀ env.locals h' all ∧ (∀ p ∈ (s.heap.objs.size, it) :: news₁, p ∈ all) ∧ Inv (i + 1) m') →
        LoopStepU h₀ env.locals [s.heap.objs.size] own (fun m₁ news₂ => Inv (i + 1) m₁ ∧ news₂ = news₁) { s with heap := hh', toks := tk' } .next s₂ := by
      rintro ⟨h', tk, m', all, e, F', N', hs, hJ'⟩
      refine ⟨rfl, h', tk, m', news₁, e, F', fun p hp => ?_, hoff, hJ', rfl⟩
      rcases List.mem_append.mp hp with hp | hp
      · have h1 : p.1 = s.heap.objs.size := List.mem_singleton.mp (hown p hp)
        have h2 : hh'.get? p.1 = some p.2 := hget p hp
        have h3 : p = (s.heap.objs.size, it) := by
          rw [h1, hst'] at h2
          exact Prod.ext h1 (Option.some.inj h2).symm
        rw [h3]; exact N' _ (hs _ (List.mem_cons_self ..))
      · exact N' _ (hs _ (List.mem_cons_of_mem _ hp))
    cases f with
    | ret v => exact .ret p
    | brk => exact .brk p
    | next => exact .next (fin2 p)
    | cont => exact .cont (fin2 p)
  · rintro h' tk m' news' F' N' _ ⟨hJ, rfl⟩
    exact fin m' h' tk hJ F' N'
theorem map_self {nm : Str} {M : Str → Option Value} : M = fun z => if z = nm then M nm else M z := by
  funext z
  split
  · rename_i h; rw [h]
  · rfl
theorem map_turn1 {nm : Str} {v mf : Option Value} {M : Str → Option Value} : (fun y => if y = nm then v else (fun z => if z = nm then mf else M z) y) = fun z => if z = nm then v else M z := by
  funext z
  by_cases h : z = nm
  · simp only [h, if_true]
  · simp only [h, if_false]
def PlainTurn (h₀ : Heap) (L : Addr) (news : Led) (x : Str) (m₀ : Str → Option Value) (Q : Flow → Shared → Prop) (s₁ : Shared) (f : Flow) (s₂ : Shared) : Prop :=
  match f with
  | .ret v => Q (.ret v) s₂
  | .brk => Q .next s₂
  | _ => ∃ h' tk v all, s₂ = { s₁ with heap := h', toks := tk } ∧ Fr h₀ L h' (fun y => if y = x then v else m₀ y) ∧ News h₀ L h' all ∧ (∀ p ∈ news, p ∈ all)
theorem iter_range_plain {r : Addr} {a₀ b₀ : Int} {t₀ u₀ v₀ : Tok} {n : Nat} {m₀ : Str → Option Value} {news : Led} (hr : IsRange s.heap r a₀ b₀ 1 t₀ u₀ v₀) (hsmall : Builtin.Range.small a₀ b₀ 1 = true) (hn : Builtin.Range.rangeSize a₀ b₀ 1 = (n : Int))
    (hh : A.handled = none) (F : Fr h₀ env.locals s.heap m₀) (N : News h₀ env.locals s.heap news)
    (turn : ∀ (I : Addr) (it : Obj) i h tk t', (∀ p ∈ news, p.1 < I) → i < n → Fr h₀ env.locals h (fun y => if y = x then some (.int (a₀ + (i : Int)) t') else m₀ y) → News h₀ env.locals h ((I, it) :: news) →
      wpAny (model prog w) A (execs body env) (PlainTurn h₀ env.locals ((I, it) :: news) x m₀ Q { s with heap := h, toks := tk }) E { s with heap := h, toks := tk })
    (fin : ∀ v h tk, Fr h₀ env.locals h (fun y => if y = x then v else m₀ y) → News h₀ env.locals h news → Q .next { s with heap := h, toks := tk }) :
    wpAny (model prog w) A (pyIter (.ref r)) (fun it s₂ => LoopAtV prog w A h₀ env x body Q E it s₂) E s := by
  refine iter_range (fun _ m => ∃ v, m = fun z => if z = x then v else m₀ z) hr hsmall hn hh F N ⟨_, map_self⟩ ?_ ?_
  · rintro I it i m h tk t' hI hi ⟨v, rfl⟩ F₁ N₁
    rw [map_turn1] at F₁
    refine wpAny_mono (turn I it i h tk t' hI hi F₁ N₁) (fun f s₂ p => ?_) fun _ _ e => e
    cases f with
    | ret v => exact p
    | brk => exact p
    | next => obtain ⟨h', tk, v, all, e, F', N', hs⟩ := p; exact ⟨h', tk, _, all, e, F', N', hs, v, rfl⟩
    | cont => obtain ⟨h', tk, v, all, e, F', N', hs⟩ := p; exact ⟨h', tk, _, all, e, F', N', hs, v, rfl⟩
  · rintro m h tk ⟨v, rfl⟩ F₁ N₁
    exact fin v h tk F₁ N₁
end
section
variable {prog : Program} {w : World} {A : Around} {E : Value → Shared → Prop} {s : Shared} {h₀ : Heap} {L : Addr} {m : Str → Option Value} {news : Led} {x y : Str} {t : Tok} {value slice : PySem.Expr} {Q : Value → Shared → Prop}
theorem slice_sn_is {i : Int} {ui : Tok} (e : Txt.slice x (some i) none = y) (hsz : x.length ≤ 1000) (hF : Fr h₀ L s.heap m) (hN : News h₀ L s.heap news) (h : ∀ h' t' k, Fr h₀ L h' m → News h₀ L h' news → Q (.str y t') { s with heap := h', toks := k })
    (hs : subscripted slice false (.str x t) (.ref s.heap.objs.size) = operate [.ref s.heap.objs.size, .str x t] (getItem (.str x t) (.ref s.heap.objs.size)) := by with_unfolding_all rfl)
    (ht : ∀ r, letTemporaryGo value (.str x t) r = pure () := by intro _; with_unfolding_all rfl) :
    wpAny (model prog w) A (subscriptTail value slice (.str x t) (.ref s.heap.objs.size)) Q E { s with heap := s.heap.push { cls := .type "slice", data := .fields #[.int i ui, .none, .none] } } := by
  subst e; exact slice_strN_sn hF hN h hs ht (by rw [sizeLine_eq]; omega)
theorem slice_ns_is {j : Int} {uj : Tok} (e : Txt.slice x none (some j) = y) (hsz : x.length ≤ 1000) (hF : Fr h₀ L s.heap m) (hN : News h₀ L s.heap news) (h : ∀ h' t' k, Fr h₀ L h' m → News h₀ L h' news → Q (.str y t') { s with heap := h', toks := k })
    (hs : subscripted slice false (.str x t) (.ref s.heap.objs.size) = operate [.ref s.heap.objs.size, .str x t] (getItem (.str x t) (.ref s.heap.objs.size)) := by with_unfolding_all rfl)
    (ht : ∀ r, letTemporaryGo value (.str x t) r = pure () := by intro _; with_unfolding_all rfl) :
    wpAny (model prog w) A (subscriptTail value slice (.str x t) (.ref s.heap.objs.size)) Q E { s with heap := s.heap.push { cls := .type "slice", data := .fields #[.none, .int j uj, .none] } } := by
  subst e; exact slice_strN_ns hF hN h hs ht (by rw [sizeLine_eq]; omega)
end
end
theorem flush_24 : True := by
  w_top off
  first | walk1 | trivial
section
open PySem PySem.W PyProof.Rows PySem.Calls
set_option Elab.async false
set_option maxRecDepth 100000
theorem dots : Str.ofString "." = S [46] := by decide +kernel
theorem nils : Str.ofString "" = S [] := by decide +kernel
theorem figs_in {c : Nat} : c ∈ (Str.ofString "0123456789").cps.toList ↔ IsDig c := by
  rw [show (Str.ofString "0123456789").cps.toList = [48, 49, 50, 51, 52, 53, 54, 55, 56, 57] from by decide +kernel]
  exact ⟨(by decide : ∀ c ∈ [48, 49, 50, 51, 52, 53, 54, 55, 56, 57], 48 ≤ c ∧ c ≤ 57) c, fun h => (by decide +kernel : ∀ c, c < 58 → 48 ≤ c → c ∈ [48, 49, 50, 51, 52, 53, 54, 55, 56, 57]) c (Nat.lt_succ_of_le h.2) h.1⟩
theorem wsig_dig {c : Nat} (h : IsDig c) : c ∈ (Str.ofString "ABCDEFGHIJKLMNOPQRSTUVWXYZ0123456789-").cps.toList := by
  rw [show (Str.ofString "ABCDEFGHIJKLMNOPQRSTUVWXYZ0123456789-").cps.toList = (List.range 26).map (· + 65) ++ ((List.range 10).map (· + 48) ++ [45]) from by decide +kernel]
  refine List.mem_append_right _ (List.mem_append_left _ ?_)
  exact List.mem_map.mpr ⟨c - 48, List.mem_range.mpr (by have := h.1; have := h.2; omega), by have := h.1; omega⟩
theorem wsig_46 : (46 : Nat) ∉ (Str.ofString "ABCDEFGHIJKLMNOPQRSTUVWXYZ0123456789-").cps.toList := by decide +kernel
theorem wsig_32 : (32 : Nat) ∉ (Str.ofString "ABCDEFGHIJKLMNOPQRSTUVWXYZ0123456789-").cps.toList := by decide +kernel
def Gap (q : List Nat) : Prop := q = [] ∨ ∃ r, q = 32 :: r
theorem slice_pre (p l q : List Nat) (i j : Nat) (hi : i = p.length) (hj : j = p.length + l.length) : Txt.slice (S (p ++ (l ++ q))) (some (i : Int)) (some (j : Int)) = S l := by
  rw [slice_nat, hi, hj, List.take_length_add_append, List.drop_left, List.take_left]
theorem run_pre (p l q : List Nat) (Sg : Str) (i : Int) (r : Nat) (hi : i = (p.length : Int)) (hr : r = p.length + l.length) (h1 : ∀ c ∈ l, c ∈ Sg.cps.toList) (h2 : ∀ c, q.head? = some c → c ∉ Sg.cps.toList) : Run (S (p ++ (l ++ q))) Sg i r := by
  subst hi hr
  refine ⟨by omega, by omega, by rw [len_S]; simp, fun k c h3 h4 h5 => h1 c ?_, fun c h5 => h2 c ?_⟩
  · have h6 : (p ++ (l ++ q))[k]? = some c := by simpa using h5
    rw [List.getElem?_append_right (by omega), List.getElem?_append_left (by omega)] at h6
    exact List.mem_of_getElem? h6
  · have h6 : (p ++ (l ++ q))[p.length + l.length]? = some c := by simpa using h5
    rw [List.getElem?_append_right (by omega), List.getElem?_append_right (by omega), show p.length + l.length - p.length - l.length = 0 by omega] at h6
    rw [List.head?_eq_getElem?]
    exact h6
theorem gap_head {q : List Nat} (h : Gap q) {c : Nat} (hc : q.head? = some c) : c = 32 := by
  rcases h with rfl | ⟨r, rfl⟩
  · cases hc
  · exact (Option.some.inj hc).symm
theorem apart_pre (p q : List Nat) (h : Gap q) (i : Nat) (hi : i = p.length) : Apart (S (p ++ q)) i := by
  rcases h with rfl | ⟨r, rfl⟩
  · refine .inl ?_
    have := slice_pre p [] [] i (i + 2) hi
    rw [show ((i : Int) + 2) = ((i + 2 : Nat) : Int) by omega, slice_nat, nils, S_inj, List.append_nil, List.drop_eq_nil_of_le (by rw [List.length_take]; omega)]
    rfl
  · have e : Txt.slice (S (p ++ 32 :: r)) (some (i : Int)) (some ((i : Int) + 2)) = S (32 :: r.take 1) := by
      rw [show ((i : Int) + 2) = ((i + 2 : Nat) : Int) by omega, slice_nat, hi, List.take_length_add_append, List.drop_left]
      rfl
    refine .inr ?_
    rw [e]
    refine ⟨by rw [nils, S_inj]; rfl, by rw [len_S]; simp, item_S (i := 0) rfl⟩
theorem item_pre (p q : List Nat) (c i : Nat) (hi : i = p.length) : Txt.item (S (p ++ c :: q)) (i : Int) = ⟨#[c]⟩ := item_S (by subst hi; simp)
theorem slice_one (p q : List Nat) (c i : Nat) (hi : i = p.length) : Txt.slice (S (p ++ c :: q)) (some (i : Int)) (some ((i : Int) + 1)) = S [c] := by
  rw [show ((i : Int) + 1) = ((i + 1 : Nat) : Int) by omega]
  exact slice_pre p [c] q i (i + 1) hi (by simp [hi])
theorem slice_nodot (p q : List Nat) (h : Gap q) (i : Nat) (hi : i = p.length) : (Txt.slice (S (p ++ q)) (some (i : Int)) (some ((i : Int) + 1)) == Str.ofString ".") = false := by
  rcases h with rfl | ⟨r, rfl⟩
  · rw [show ((i : Int) + 1) = ((i + 1 : Nat) : Int) by omega, slice_nat, dots, S_inj, List.append_nil, List.drop_eq_nil_of_le (by rw [List.length_take]; omega)]
    rfl
  · rw [slice_one p r 32 i hi, dots, S_inj]; rfl
theorem num_at {l : List Nat} {n sc : Nat} {a b : List Nat} (h : Shape l n sc a b) (p q : List Nat) (hq : Gap q) (i e : Nat) (hi : i = p.length) (he : e = p.length + l.length) : WorthAt (S (p ++ (l ++ q))) i (Str.ofString "number") (S l) e := by
  have hdig : ∀ c ∈ a, c ∈ (Str.ofString "0123456789").cps.toList := fun c hc => figs_in.mpr (h.da c hc)
  have hdigb : ∀ c ∈ b, c ∈ (Str.ofString "0123456789").cps.toList := fun c hc => figs_in.mpr (h.db c hc)
  have hgq : ∀ c, q.head? = some c → c ∉ (Str.ofString "0123456789").cps.toList := fun c hc => by rw [gap_head hq hc, figs_in]; intro h; exact absurd h.1 (by omega)
  have hgw : ∀ c, q.head? = some c → c ∉ (Str.ofString "ABCDEFGHIJKLMNOPQRSTUVWXYZ0123456789-").cps.toList := fun c hc => by rw [gap_head hq hc]; exact wsig_32
  have hsl : Txt.slice (S (p ++ (l ++ q))) (some (i : Int)) (some (e : Int)) = S l := slice_pre p l q i e hi he
  have hap : Apart (S (p ++ (l ++ q))) e := by
    rw [← List.append_assoc]
    exact apart_pre (p ++ l) q hq e (by rw [List.length_append]; exact he)
  have hrl : (Txt.replace (S l) (Str.ofString ".") (Str.ofString "")).length ≤ 18 := by
    rw [dots, nils]
    have h1 := replace_len l 46
    by_cases h0 : sc = 0
    · have := h.whole h0
      have h2 := h.lab
      rw [this.2] at h2
      rw [← this.1] at h2
      have := h1.1
      simp at h2
      omega
    · have h3 := h.parted h0
      have h2 := h.lab
      have h4 := h1.2 (by rw [h3]; simp)
      rw [h3, List.length_append, List.length_cons] at h4
      rw [← h3] at h4
      omega
  rw [← hsl]
  by_cases h0 : sc = 0
  · obtain ⟨e1, e2⟩ := h.whole h0
    subst e1
    cases hl : l with
    | nil => exact absurd (h.emp hl) (by omega)
    | cons c r =>
      have hc := h.da c (by rw [hl]; exact .head _)
      rw [← hl]
      refine .num e e c (by rw [len_S]; simp [hl]; omega) hc (by rw [hl]; exact item_pre p (r ++ q) c i hi) (run_pre p l q _ _ _ (by rw [hi]) he (fun c hc => wsig_dig (h.da c hc)) hgw) (Nat.le_refl _) (.inl ⟨run_pre p l q _ _ _ (by rw [hi]) he hdig hgq, ?_⟩) hap (by rw [hsl]; exact hrl)
      rw [← List.append_assoc]
      exact slice_nodot (p ++ l) q hq e (by rw [List.length_append]; exact he)
  · have hl := h.parted h0
    have hb0 : 0 < b.length := by rw [h.lb]; omega
    cases hb : b with
    | nil => rw [hb] at hb0; cases hb0
    | cons d b' =>
      have hdd : IsDig d := h.db d (by rw [hb]; exact .head _)
      have hlen : l.length = a.length + 1 + b.length := by rw [hl]; simp; omega
      have ex : p ++ (l ++ q) = (p ++ a) ++ 46 :: (b ++ q) := by rw [hl]; simp
      have ex2 : p ++ (l ++ q) = (p ++ a ++ [46]) ++ (b ++ q) := by rw [hl]; simp
      have hpl : p.length + a.length = (p ++ a).length := (List.length_append).symm
      have hrun2 : Run (S (p ++ (l ++ q))) (Str.ofString "0123456789") (((p.length + a.length : Nat) : Int) + 1) e := by
        rw [ex2]
        exact run_pre _ b q _ _ _ (by simp; omega) (by simp; omega) hdigb hgq
      have hs2 : (Txt.slice (S (p ++ (l ++ q))) (some (((p.length + a.length : Nat) : Int) + 1)) (some (((p.length + a.length : Nat) : Int) + 2)) != Str.ofString "") = true := by
        have := slice_one (p ++ a ++ [46]) (b' ++ q) d (p.length + a.length + 1) (by simp; omega)
        rw [show (((p.length + a.length + 1 : Nat) : Int)) = ((p.length + a.length : Nat) : Int) + 1 by omega, show (((p.length + a.length : Nat) : Int) + 1 + 1) = ((p.length + a.length : Nat) : Int) + 2 by omega] at this
        rw [ex2, hb]
        show (Txt.slice (S ((p ++ a ++ [46]) ++ d :: (b' ++ q))) _ _ != _) = true
        rw [this, nils]
        show (!(S [d] == S [])) = true
        rw [S_inj]; rfl
      have hit : Txt.item (S (p ++ (l ++ q))) (((p.length + a.length : Nat) : Int) + 1) = ⟨#[d]⟩ := by
        rw [ex2, hb]
        have := item_pre (p ++ a ++ [46]) (b' ++ q) d (p.length + a.length + 1) (by simp; omega)
        rw [← this, show (((p.length + a.length + 1 : Nat) : Int)) = ((p.length + a.length : Nat) : Int) + 1 by omega]
        rfl
      have hin : (Builtin.Str.occurrences (Str.ofString "0123456789") (Txt.item (S (p ++ (l ++ q))) (((p.length + a.length : Nat) : Int) + 1)) 0 (Str.ofString "0123456789").length 1).isEmpty = false := by
        rw [occ_is hit, decide_eq_true (figs_in.mpr hdd)]; rfl
      have hlt : ((p.length + a.length : Nat) : Int) + 1 < ((S (p ++ (l ++ q))).length : Int) := by rw [len_S]; simp; omega
      cases ha : a with
      | nil =>
        have hii : ((p.length + a.length : Nat) : Int) = (i : Int) := by rw [ha, hi]; simp
        rw [hii] at hrun2 hs2 hin hlt
        refine .dot e hlt ?_ hs2 hin hrun2 hap (by rw [hsl]; exact hrl)
        rw [ex, ha, List.append_nil]
        exact item_pre p _ 46 i hi
      | cons c r =>
        have hc := h.da c (by rw [ha]; exact .head _)
        refine .num (p.length + a.length) e c (by rw [len_S]; simp; omega) hc ?_ ?_ (by omega) (.inr ⟨p.length + a.length, ?_, hrun2, ?_, hs2, hlt, hin⟩) hap (by rw [hsl]; exact hrl)
        · rw [hl, ha]
          show Txt.item (S (p ++ c :: (r ++ 46 :: b ++ q))) _ = _
          exact item_pre p _ c i hi
        · rw [hl, List.append_assoc]
          exact run_pre p a _ _ _ _ (by rw [hi]) rfl (fun c hc => wsig_dig (h.da c hc)) fun c hc => by cases hc; exact wsig_46
        · rw [hl, List.append_assoc]
          exact run_pre p a _ _ _ _ (by rw [hi]) rfl hdig fun c hc => by cases hc; rw [figs_in]; intro h; exact absurd h.1 (by omega)
        · rw [ex, slice_one (p ++ a) (b ++ q) 46 _ hpl, dots, S_inj]; rfl
theorem sign_at (p q : List Nat) (hq : ∀ c, q.head? = some c → c ≠ 42 ∧ c ≠ 61) (g i : Nat) (hk : g = 45 ∨ g = 43 ∨ g = 42) (hi : i = p.length) : WorthAt (S (p ++ g :: q)) i (Str.ofString "sign") (S [g]) (i + 1) := by
  have e : Txt.slice (S (p ++ g :: q)) (some (i : Int)) (some ((i : Int) + 2)) = S (g :: q.take 1) := by
    rw [show ((i : Int) + 2) = ((i + 2 : Nat) : Int) by omega, slice_nat, hi, List.take_length_add_append, List.drop_left]
    rfl
  refine .sign g (by rw [len_S]; simp; omega) hk (item_pre p q g i hi) ?_ ?_
  · rw [e, show Str.ofString "==" = S [61, 61] from by decide +kernel, S_inj]
    refine decide_eq_false fun h => ?_
    have := (List.cons.inj h).1
    omega
  · rw [e]
    show (S [42, 42] == S (g :: q.take 1) || (S [60, 61] == S (g :: q.take 1) || (S [62, 61] == S (g :: q.take 1) || false))) = false
    rw [S_inj, S_inj, S_inj, Bool.or_false, Bool.or_eq_false_iff, Bool.or_eq_false_iff]
    refine ⟨decide_eq_false fun h => ?_, decide_eq_false fun h => ?_, decide_eq_false fun h => ?_⟩
    · have := (List.cons.inj h).2
      cases q with
      | nil => cases this
      | cons c r => exact absurd (List.cons.inj this).1.symm (hq c rfl).1
    · have := (List.cons.inj h).1
      omega
    · have := (List.cons.inj h).1
      omega
theorem word_at (p q : List Nat) (hq : Gap q) (i : Nat) (hi : i = p.length) : WorthAt (S (p ++ 65 :: q)) i (Str.ofString "word") (Str.ofString "A") (i + 1) := by
  have hsl : Txt.slice (S (p ++ 65 :: q)) (some (i : Int)) (some ((i + 1 : Nat) : Int)) = S [65] := slice_pre p [65] q i (i + 1) hi (by simp [hi])
  refine .word (by rw [len_S]; simp; omega) (item_pre p q 65 i hi) ?_ (.inl ⟨?_, ?_⟩) ?_ (by rw [hsl]; decide +kernel)
  · exact run_pre p [65] q _ _ _ (by rw [hi]) (by simp [hi]) (fun c hc => by cases hc with | head => decide +kernel | tail _ h => cases h) fun c hc => by rw [gap_head hq hc]; exact wsig_32
  · exact run_pre p [] (65 :: q) _ _ _ (by rw [hi]) (by simp [hi]) (fun c hc => nomatch hc) fun c hc => by cases hc; rw [figs_in]; intro h; exact absurd h.2 (by omega)
  · rw [slice_one p q 65 i hi, dots, S_inj]; rfl
  · have := apart_pre (p ++ [65]) q hq (i + 1) (by simp [hi])
    rwa [List.append_assoc] at this
def Cut (p u : List Nat) (ts : List (Str × Str)) : Prop := ∃ its, TextFrom (S (p ++ u)) p.length its ∧ toksOf its = ts
theorem Cut.nil (p : List Nat) : Cut p [] [] := ⟨[], by show p.length = _; rw [List.append_nil, len_S], rfl⟩
theorem Cut.tok {p u l : List Nat} {ts : List (Str × Str)} {k wd : Str} (h : Cut (p ++ l) u ts) (hw : WorthAt (S (p ++ (l ++ u))) p.length k wd (p.length + l.length)) : Cut p (l ++ u) ((k, wd) :: ts) := by
  obtain ⟨its, h1, h2⟩ := h
  rw [List.append_assoc, List.length_append] at h1
  exact ⟨.tok k wd _ :: its, ⟨hw, h1⟩, by show (k, wd) :: toksOf its = _; rw [h2]⟩
theorem Cut.blank {p u : List Nat} {ts : List (Str × Str)} (h : Cut (p ++ [32]) u ts) : Cut p (32 :: u) ts := by
  obtain ⟨its, h1, h2⟩ := h
  rw [List.append_assoc, List.length_append] at h1
  exact ⟨.blank :: its, ⟨by rw [len_S]; simp, item_pre p u 32 _ rfl, h1⟩, h2⟩
theorem Cut.sign {p u : List Nat} {ts : List (Str × Str)} {g : Nat} (hk : g = 45 ∨ g = 43 ∨ g = 42) (hu : ∀ c, u.head? = some c → c ≠ 42 ∧ c ≠ 61) (h : Cut (p ++ [g]) u ts) : Cut p (g :: u) ((Str.ofString "sign", S [g]) :: ts) :=
  Cut.tok (l := [g]) h (sign_at p u hu g _ hk rfl)
theorem Cut.word {p u : List Nat} {ts : List (Str × Str)} (hu : Gap u) (h : Cut (p ++ [65]) u ts) : Cut p (65 :: u) ((Str.ofString "word", Str.ofString "A") :: ts) :=
  Cut.tok (l := [65]) h (word_at p u hu _ rfl)
theorem Cut.num {p u l : List Nat} {ts : List (Str × Str)} {n sc : Nat} {a b : List Nat} (hs : Shape l n sc a b) (hu : Gap u) (h : Cut (p ++ l) u ts) : Cut p (l ++ u) ((Str.ofString "number", S l) :: ts) :=
  Cut.tok h (num_at hs p u hu _ _ rfl rfl)
def sgn (neg : Bool) : List Nat := if neg then [45] else []
def sgt (neg : Bool) : List (Str × Str) := if neg then [(Str.ofString "sign", S [45])] else []
def numToks (neg : Bool) (l : List Nat) (r : List (Str × Str)) : List (Str × Str) := sgt neg ++ (Str.ofString "number", S l) :: r
def exText (neg : Bool) (l : List Nat) : List Nat := 65 :: 32 :: 45 :: 32 :: (sgn neg ++ (l ++ 32 :: 43 :: 32 :: (sgn neg ++ (l ++ [32, 42, 32, 65]))))
def exToks (neg : Bool) (l : List Nat) : List (Str × Str) := (Str.ofString "word", Str.ofString "A") :: (Str.ofString "sign", S [45]) :: numToks neg l ((Str.ofString "sign", S [43]) :: numToks neg l [(Str.ofString "sign", S [42]), (Str.ofString "word", Str.ofString "A")])
section
variable {l : List Nat} {n sc : Nat} {a b : List Nat}
theorem shape_head (h : Shape l n sc a b) {c : Nat} (u : List Nat) (hc : (l ++ u).head? = some c) : c ≠ 42 ∧ c ≠ 61 := by
  by_cases h0 : sc = 0
  · obtain ⟨e1, e2⟩ := h.whole h0
    cases hl : l with
    | nil => exact absurd (h.emp (e1 ▸ hl)) (by omega)
    | cons d r =>
      rw [hl] at hc
      cases hc
      have := h.da c (by rw [← e1, hl]; exact .head _)
      obtain ⟨_, _⟩ := this
      omega
  · have e := h.parted h0
    cases ha : a with
    | nil => rw [e, ha] at hc; cases hc; exact ⟨by decide, by decide⟩
    | cons d r =>
      rw [e, ha] at hc
      cases hc
      have := h.da c (by rw [ha]; exact .head _)
      obtain ⟨_, _⟩ := this
      omega
theorem Cut.snum (h : Shape l n sc a b) (neg : Bool) {p u : List Nat} {ts : List (Str × Str)} (hu : Gap u) (hc : Cut (p ++ sgn neg ++ l) u ts) : Cut p (sgn neg ++ (l ++ u)) (numToks neg l ts) := by
  cases neg with
  | false => exact Cut.num h hu (by simpa [sgn] using hc)
  | true => exact Cut.sign (.inl rfl) (fun c hc => shape_head h u hc) (Cut.num h hu hc)
theorem nm_cut (h : Shape l n sc a b) (neg : Bool) : Cut [] (sgn neg ++ l) (numToks neg l []) := by
  have := Cut.snum h neg (p := []) (.inl rfl) (Cut.nil _)
  rwa [List.append_nil] at this
theorem gap32 {r : List Nat} : ∀ c, (32 :: r).head? = some c → c ≠ 42 ∧ c ≠ 61 := fun c hc => by cases hc; exact ⟨by decide, by decide⟩
theorem ex_cut (h : Shape l n sc a b) (neg : Bool) : Cut [] (exText neg l) (exToks neg l) := by
  refine Cut.word (.inr ⟨_, rfl⟩) (Cut.blank (Cut.sign (.inl rfl) gap32 (Cut.blank (Cut.snum h neg (.inr ⟨_, rfl⟩) (Cut.blank (Cut.sign (.inr (.inl rfl)) gap32 (Cut.blank (Cut.snum h neg (.inr ⟨_, rfl⟩) (Cut.blank (Cut.sign (.inr (.inr rfl)) gap32 (Cut.blank (Cut.word (.inl rfl) (Cut.nil _)))))))))))))
theorem shape_low (h : Shape l n sc a b) : ∀ c ∈ l, c < 97 := by
  have ha : ∀ c ∈ a, c < 97 := fun c hc => by have := (h.da c hc).2; omega
  have hb : ∀ c ∈ b, c < 97 := fun c hc => by have := (h.db c hc).2; omega
  intro c hc
  by_cases h0 : sc = 0
  · exact ha c ((h.whole h0).1 ▸ hc)
  · rw [h.parted h0] at hc
    rcases List.mem_append.mp hc with hc | hc
    · exact ha c hc
    · rcases List.mem_cons.mp hc with rfl | hc
      · decide
      · exact hb c hc
theorem shape_len (h : Shape l n sc a b) : l.length ≤ 19 := by
  have h2 := h.lab
  by_cases h0 : sc = 0
  · have := h.whole h0
    rw [this.1]
    omega
  · rw [h.parted h0, List.length_append, List.length_cons]
    omega
theorem low_S {l : List Nat} (h : ∀ c ∈ l, c < 97) : Low (S l) := fun c hc => h c (by simpa using hc)
theorem sgn_low (neg : Bool) : ∀ c ∈ sgn neg, c < 97 := by cases neg <;> decide
theorem sgn_len (neg : Bool) : (sgn neg).length ≤ 1 := by cases neg <;> decide
theorem sgt_len (neg : Bool) : (sgt neg).length ≤ 1 := by cases neg <;> exact Nat.le_of_ble_eq_true rfl
theorem nm_low (h : Shape l n sc a b) (neg : Bool) : Low (S (sgn neg ++ l)) := low_S fun c hc => (List.mem_append.mp hc).elim (sgn_low neg c) (shape_low h c)
theorem nm_len (h : Shape l n sc a b) (neg : Bool) : (S (sgn neg ++ l)).length ≤ 20 := by
  have := shape_len h
  have := sgn_len neg
  rw [len_S, List.length_append]
  omega
theorem ex_low (h : Shape l n sc a b) (neg : Bool) : Low (S (exText neg l)) := low_S fun c hc => by
  have h1 := sgn_low neg
  have h2 := shape_low h
  simp only [exText, List.mem_cons, List.mem_append, List.not_mem_nil, or_false] at hc
  rcases hc with rfl | rfl | rfl | rfl | hc | hc | rfl | rfl | rfl | hc | hc | rfl | rfl | rfl | rfl
  all_goals first | decide | exact h1 _ hc | exact h2 _ hc
theorem ex_len (h : Shape l n sc a b) (neg : Bool) : (S (exText neg l)).length ≤ 60 := by
  have := shape_len h
  have := sgn_len neg
  rw [len_S]
  simp only [exText, List.length_append, List.length_cons, List.length_nil]
  omega
theorem nmToks_len (neg : Bool) (l : List Nat) (r : List (Str × Str)) : (numToks neg l r).length ≤ r.length + 2 := by
  have := sgt_len neg
  unfold numToks
  rw [List.length_append, List.length_cons]
  omega
theorem exToks_len (neg : Bool) (l : List Nat) : (exToks neg l).length ≤ 9 := by
  have h1 := nmToks_len neg l [(Str.ofString "sign", S [42]), (Str.ofString "word", Str.ofString "A")]
  have h2 := nmToks_len neg l ((Str.ofString "sign", S [43]) :: numToks neg l [(Str.ofString "sign", S [42]), (Str.ofString "word", Str.ofString "A")])
  unfold exToks
  simp only [List.length_cons, List.length_nil] at *
  omega
end
end
theorem flush_25 : True := by
  w_top off
  first | walk1 | trivial
section
open PySem PySem.W PyProof.Rows PySem.Calls
set_option Elab.async false
set_option maxRecDepth 100000
set_option maxHeartbeats 0
section
variable {prog : Program} {w : World} {A : Around} {E : Value → Shared → Prop} {s : Shared} {h₀ : Heap} {L : Addr} {led : Led} {vs : List Value} {x : Value} {value slice : PySem.Expr} {k : Int} {u : Tok} {Q : Value → Shared → Prop}
theorem tup_item {a j : Nat} (N : News h₀ L s.heap led) (hm : (a, tupObj vs) ∈ led) (hk : (decide (-(2 ^ 63) ≤ k) && decide (k < 2 ^ 63)) = true) (hj : seqIndex? k vs.length = some j) (hx : vs[j]? = some x) (h : Q x s)
    (hs : subscripted slice false (.ref a) (.int k u) = operate [.ref a, .int k u] (getItem (.ref a) (.int k u)) := by with_unfolding_all rfl) : wpAny (model prog w) A (subscriptTail value slice (.ref a) (.int k u)) Q E s := by
  simp only [Bool.and_eq_true, decide_eq_true_eq] at hk
  exact item_tupleT ⟨_, (N _ hm).1, rfl, 0, rfl⟩ hk.1 hk.2 hj hx h hs
theorem len_text {y : Str} {t : Tok} (h0 : y.length ≤ 1000) (h : Q (.int y.length (s.toks + 1)) { s with toks := s.toks + 1 + 1 }) : wpAny (model prog w) A (call (.builtin "len") [.str y t]) Q E s :=
  P.len_str (by omega) h
end
end
theorem flush_26 : True := by
  w_top off
  first | walk1 | trivial
section
open PySem PySem.W PyProof.Rows PySem.Calls
open Builtin Builtin.Str
set_option Elab.async false
set_option maxRecDepth 100000
set_option maxHeartbeats 0
theorem rev_nolen : typeLookup (.type "list_reverseiterator") "__len__" = pure none := by rw [typeLookup_type, builtinLookup_eq_fast]; kernel_rfl
theorem rev_hint : typeLookup (.type "list_reverseiterator") "__length_hint__" = pure (some (.builtin "list_reverseiterator.__length_hint__")) := by rw [typeLookup_type, builtinLookup_eq_fast]; kernel_rfl
section
variable {prog : Program} {w : World} {A : Around} {E : Value → Shared → Prop} {s : Shared} {I ax : Addr}
theorem rev_items {items acc : Array Value} (h : ItemsOf (fun i v => items[items.size - 1 - i]? = some v) acc items.size) : acc.toList = items.toList.reverse := by
  apply List.ext_getElem?
  intro j
  by_cases hj : j < items.size
  · have hj' : j < acc.size := by rw [h.1]; exact hj
    have h1 := h.2 j _ (Array.getElem?_eq_getElem hj')
    rw [List.getElem?_reverse (by simpa using hj), Array.getElem?_toList, Array.getElem?_toList, Array.length_toList, h1]
    exact Array.getElem?_eq_getElem hj'
  · rw [List.getElem?_eq_none (by rw [Array.length_toList, h.1]; omega), List.getElem?_eq_none (by rw [List.length_reverse, Array.length_toList]; omega)]
theorem collect_rev {items : Array Value} {Q : List Value → Shared → Prop} (hh : A.handled = none) (hne : ax ≠ I) (hit : s.heap.IsRevIter I ax ((items.size : Int) - 1)) (hl : s.heap.IsList ax items) (hn : items.size ≤ sizeLine)
    (hQ : ∀ h' tk, (∀ b o, b ≠ I → s.heap.get? b = some o → h'.get? b = some o) → Q items.toList.reverse { s with heap := h', toks := tk }) : wpAny (model prog w) A (collect (.ref I)) Q E s := by
  have W := (Walks.listRev (prog := prog) (w := w) (A := A.in1) hh I ax hne items).toS
  have hst : 0 ≤ items.size ∧ s.heap.IsRevIter I ax ((items.size : Int) - 1 - ((0 : Nat) : Int)) ∧ s.heap.IsList ax items := ⟨Nat.zero_le _, by rw [show (items.size : Int) - 1 - ((0 : Nat) : Int) = (items.size : Int) - 1 by omega]; exact hit, hl⟩
  have hI : I < s.heap.objs.size := let ⟨_, ho, _⟩ := hit; Heap.lt_size ho
  have hX : ax < s.heap.objs.size := let ⟨_, ho, _⟩ := hl; Heap.lt_size ho
  have hSf : s.heap.objs.size ∉ [I, ax] := fun hm => by
    rcases List.mem_cons.mp hm with e | hm
    · exact Nat.lt_irrefl _ (e ▸ hI)
    · exact Nat.lt_irrefl _ (List.mem_singleton.mp hm ▸ hX)
  have hSI : s.heap.objs.size ≠ I := fun e => hSf (e ▸ List.mem_cons_self)
  unfold collect
  refine wpAny_bind (wpAny_runValue (codeAny_builtin F.entry_proto_collect ?_))
  rw [Around.under_plainId F.plain_proto_collect _]
  show wpAny _ A.in1 (newList [] >>= fun l => again (.builtin "list.__iadd__" ⟨[l, .ref I], []⟩)) _ _ s
  refine wpAny_bind (wpAny_newObj_type ?_)
  refine wpAny_pure ⟨plainId_quiet F.plain_list_iadd _, codeAny_builtin F.entry_list_iadd ?_⟩
  rw [Around.under_plainId F.plain_list_iadd _]
  have hst₁ := W.frame 0 s (s.heap.push { cls := .type "list", data := .seq ([] : List Value).toArray }) s.toks hst (Nat.le_refl _) fun b _ o e => Heap.get?_push_of_some _ e
  have hS₁ : (s.heap.push { cls := .type "list", data := .seq ([] : List Value).toArray }).get? s.heap.objs.size = some { cls := .type "list", data := .seq ([] : List Value).toArray } := Heap.get?_push_size _ rfl
  have h1 : Builtin.List.listSameRef (.ref s.heap.objs.size) (.ref I) = false := by simp [Builtin.List.listSameRef, hSI]
  show wpAny _ A.in1 (Builtin.List.listExtendWith (.ref s.heap.objs.size) (.ref I) (.ref s.heap.objs.size)) _ _ _
  unfold Builtin.List.listExtendWith
  refine wpAny_bind (wpAny_typeOf hst₁.2.1.typeIs ?_)
  rw [if_neg (by rw [h1]; decide)]
  refine wpAny_bind (W.self 0 _ _ _ hst₁ ?_)
  refine wpAny_bind (wpAny_holding ?_)
  unfold Builtin.List.listLengthHint
  refine wpAny_bind (wpAny_specialOf hst₁.2.1.typeIs rev_nolen ?_)
  show wpAny _ A.in1 (specialOf (Value.ref I) (Str.ofString "__length_hint__") >>= _) _ _ _
  refine wpAny_bind (wpAny_specialOf hst₁.2.1.typeIs rev_hint ?_)
  (generalize hid : ("list_reverseiterator.__length_hint__" : String) = id0; (fail_if_success (clear hid id0)); wp_delta; rw [show splitId id0 = some ("list_reverseiterator", "__length_hint__") from by subst hid; decide +kernel]; subst hid)
  refine wpAny_bind (wpAny_isInstance (b := true) hst₁.2.1.typeIs (by rw [isSubtype_type]; kernel_rfl) ?_)
  refine wpAny_pure ?_
  rw [if_neg (by decide)]
  refine wpAny_pure ⟨plainId_quiet F.plain_extend_loop _, codeAny_extend_loopS W hn _ hSf _ items.size 0 _ _ _ rfl (Nat.zero_le _) hst₁ hS₁ (ItemsOf.nil _) fun s' acc' c' hm hS' hacc => ?_⟩
  show wpAny _ A (load s.heap.objs.size >>= _) _ _ s'
  refine wpAny_bind (wpAny_load hS' ?_)
  have M := Moved.drop_new (o := { cls := .type "list", data := .seq ([] : List Value).toArray }) (tk := s.toks) hm (Nat.le_refl _)
  show wpAny _ _ (pure acc'.toList) _ _ _
  rw [rev_items hacc]
  have key := hQ s'.heap s'.toks fun b o hb e => M.heap b o (fun h => hb (List.mem_singleton.mp h)) e
  have es : s' = { s with heap := s'.heap, toks := s'.toks } := by
    have g := M.gens
    have d := M.drawn
    have os := M.os
    obtain ⟨hp, gg, dd, tk, oo⟩ := s'
    obtain ⟨hp0, g0, d0, tk0, os0⟩ := s
    simp only at g d os
    subst g; subst d; subst os
    rfl
  rw [← es] at key
  exact wpAny_pure key
theorem rev_tail (x : Str) (l : List (Str × Tok)) (h : tooLong ((l.map (·.1)).toArray.foldl (· + ·.length + x.length) 0) = false) : Gives (joinTail x (strValues l)) (joinMade x l) := by
  have g0 := gives_joinTail x l h
  cases l with
  | nil => exact g0
  | cons p r => cases r with
    | nil => exact g0
    | cons q r' => exact g0
theorem join_rev {h₀ : Heap} {L : Addr} {m : Str → Option Value} {led : Led} {x : Str} {t : Tok} {l : List (Str × Tok)} {n : Nat} {k : Int} {Q : Value → Shared → Prop} (hh : A.handled = none) (F : Fr h₀ L s.heap m)
    (N : News h₀ L s.heap ((I, revObj ax k) :: led)) (hm : (ax, W.listOf (strValues l).toArray n) ∈ led) (hlt : ∀ p ∈ led, p.1 < I) (hk : k = (l.length : Int) - 1) (hok : JoinOk x (l.reverse.map (·.1)) = true) (hn : l.length ≤ sizeLine)
    (hQ : ∀ h' tk t', Fr h₀ L h' m → News h₀ L h' led → Q (.str (Txt.join x (l.reverse.map (·.1))) t') { s with heap := h', toks := tk }) : wpAny (model prog w) A (call (.builtin "str.join") [.str x t, .ref I]) Q E s := by
  have hIx := N _ (List.mem_cons_self ..)
  have hax := N _ (List.mem_cons_of_mem _ hm)
  have hsz : (strValues l).toArray.size = l.length := by simp [strValues]
  have hit : s.heap.IsRevIter I ax (((strValues l).toArray.size : Int) - 1) := ⟨_, hIx.1, rfl, by rw [hsz, ← hk]; rfl⟩
  have hl : s.heap.IsList ax (strValues l).toArray := ⟨_, hax.1, rfl, n, rfl⟩
  refine wpAny_call (codeAny_call_builtin PySem.F.slot_str_join.plain PySem.F.entry_str_join (PySem.F.slot_str_join.check _ _ _ _ _ _ _ _ (typeIs_str _ _ _) (PySem.F.args_str_join_2 _ _) ?_))
  rw [join_tree_other]
  refine wpAny_bind (wpAny_typeOf hit.typeIs ?_)
  show wpAny _ A.in1 ((pyIter (.ref I)).tryCatch _ >>= fun it => collect it >>= fun items => joinTail x items) _ _ s
  refine wpAny_bind (wpAny_tryCatch (wpAny_pyIter_revIter hit ?_))
  refine wpAny_bind (collect_rev (A := A.in1) hh (Nat.ne_of_lt (hlt _ hm)) hit hl (by rw [hsz]; exact hn) fun h' tk hks => ?_)
  have er : (strValues l).toArray.toList.reverse = strValues l.reverse := by simp [strValues]
  rw [er]
  have hok' : tooLong ((l.reverse.map (·.1)).toArray.foldl (· + ·.length + x.length) 0) = false := by
    have := hok
    unfold JoinOk at this
    rw [Bool.not_eq_true'] at this
    exact this
  have g := rev_tail x l.reverse hok'
  have F' : Fr h₀ L h' m := by
    obtain ⟨oL, a1, a2, hoL, a3⟩ := F.ns
    refine ⟨⟨oL, a1, a2, hks L _ hIx.2.1.symm hoL, a3⟩, fun b o e => hks b o (fun hb => ?_) (F.keep b o e), F.above⟩
    rw [hb] at e
    rw [hIx.2.2] at e
    cases e
  have N' : News h₀ L h' led := fun p hp => ⟨hks _ _ (Nat.ne_of_lt (hlt p hp)) (N p (.tail _ hp)).1, (N p (.tail _ hp)).2⟩
  exact g prog w A (wants Q E) _ (post_join l.reverse ⟨joinFit_length hok', fun t' k => hQ h' k t' F' N'⟩)
theorem join_revL {h₀ : Heap} {L : Addr} {m : Str → Option Value} {led : Led} {t : Tok} {Ar : Array Value} {n : Nat} {k : Int} {Q : Value → Shared → Prop} (l : List (Str × Tok)) (Y : Str) (hh : A.handled = none) (F : Fr h₀ L s.heap m)
    (N : News h₀ L s.heap ((I, revObj ax k) :: led)) (hm : (ax, W.listOf Ar n) ∈ led) (hA : Ar = (strValues l).toArray) (hlt : ∀ p ∈ led, p.1 < I) (hk : k = (l.length : Int) - 1) (hok : ((l.reverse.map (·.1)).map (·.length)).sum ≤ 1000) (hn : l.length ≤ 1000)
    (hY : Txt.join (Str.ofString "") (l.reverse.map (·.1)) = Y)
    (hQ : ∀ h' tk t', Fr h₀ L h' m → News h₀ L h' led → Q (.str Y t') { s with heap := h', toks := tk }) : wpAny (model prog w) A (call (.builtin "str.join") [.str (Str.ofString "") t, .ref I]) Q E s := by
  subst hA
  subst hY
  refine join_rev hh F N hm hlt hk (joinOk_of ?_) (by rw [sizeLine_eq]; omega) hQ
  rw [show (Str.ofString "").length = 0 from by decide +kernel, Nat.mul_zero]
  omega
end
theorem join_S (ls : List (List Nat)) : Txt.join (Str.ofString "") (ls.map S) = S ls.flatten := by
  show glued _ _ = _
  rw [StrLaws.glued_eq_join, show Str.ofString "" = S [] from by decide +kernel]
  induction ls with
  | nil => exact show Str.ofString "" = S [] from by decide +kernel
  | cons a r ih =>
    cases r with
    | nil => show S a = _; simp
    | cons b q =>
      show S a ++ S [] ++ Str.join (S []) ((b :: q).map S) = _
      rw [ih, S_app, S_app]
      simp
end
theorem flush_27 : True := by
  w_top off
  first | walk1 | trivial
section
open PySem PySem.W PyProof.Rows PySem.Calls
local macro_rules | `(tactic| walk_at "call ref") => `(tactic| (k_here; refine hold (by decide) ?_))
local macro_rules | `(tactic| walk_at "call builtin:len") => `(tactic| (k_here; (with_reducible show wpAny _ _ (call (Value.builtin "len") [Value.ref _]) _ _ _); k_dflt (refine' len_led ?N ?m ?z ?_; (case N => k_asm); (case m => k_mem); (case z => first | omega | (simp only [List.length_append, List.length_cons, List.length_nil]; omega)); k_whole)))
local macro_rules | `(tactic| k_all) => `(tactic| with_reducible assumption)
local macro_rules | `(tactic| news_mem) => `(tactic| k_mem)
section
open PySem PySem.W PyProof.Rows PySem.Calls
local macro_rules | `(tactic| walk_at "subscriptTail") => `(tactic| (k_here; (with_reducible show wpAny _ _ (subscriptTail _ _ (Value.ref _) (Value.int _ _)) _ _ _); k_dflt (refine' item_led ?N ?m ?z ?z2 ?x ?_ ?y; (case N => k_asm); (case m => k_mem); (case x => with_reducible assumption); (case z => with_reducible assumption); (case z2 => with_reducible assumption); (case y => with_unfolding_all rfl); k_whole)))
section
open PySem PySem.W PyProof.Rows PySem.Calls
set_option Elab.async false
set_option maxRecDepth 100000
set_option maxHeartbeats 0
section
variable {w : World} {loose : List Str} {mean : ExcName → Option Value} {mg mb : Str → Option Value} {led : Led}
theorem holdW {α : Type} {M : Model} {A : Around} {t : Sem α} {Q : α → Shared → Prop} {E : Value → Shared → Prop} {s : Shared} (h : Hold (wpAny M A t Q E s)) : wpAny M A t Q E s := h
theorem index_dig {c : Nat} (h : IsDig c) : Builtin.Str.occurrences (Str.ofString "0123456789") ⟨#[c]⟩ 0 (Str.ofString "0123456789").length 1 = [c - 48] := by
  exact (by decide +kernel : ∀ c, c < 58 → 48 ≤ c → Builtin.Str.occurrences (Str.ofString "0123456789") ⟨#[c]⟩ 0 (Str.ofString "0123456789").length 1 = [c - 48]) c (Nat.lt_succ_of_le h.2) h.1
theorem index_call {prog : Program} {w : World} {A : Around} {E : Value → Shared → Prop} {s : Shared} {x y : Str} {t u : Tok} {i : Nat} {rest : List Nat} {Q : Value → Shared → Prop} (h : Builtin.Str.occurrences x y 0 x.length 1 = i :: rest)
    (hq : Q (.int (i : Int) s.toks) { s with toks := s.toks + 1 }) : wpAny (model prog w) A (call (.builtin "str.index") [.str x t, .str y u]) Q E s :=
  call_gives F.slot_str_index (typeIs_str _ _ _) F.entry_str_index (F.args_str_index_2 _ _) (gives_str_index x y t u i rest h) hq
theorem fr_map {h₀ h : Heap} {L : Addr} {m m' : Str → Option Value} (F : Fr h₀ L h m) (e : ∀ z, m z = m' z) : Fr h₀ L h m' := by
  rw [← funext e]
  exact F
theorem map_start {nm fg : Str} {v : Option Value} {b : Str → Option Value} (h : b fg = none) : (fun y => if y = nm then v else b y) = fun z => if z = nm then v else if z = fg then none else b z := by
  funext z
  by_cases h1 : z = nm
  · simp only [h1, if_true]
  · by_cases h2 : z = fg
    · simp only [h1, h2, if_true, h]
    · simp only [h1, h2, if_false]
theorem map_turn {nm fg : Str} {v2 v3 v mf : Option Value} {b : Str → Option Value} : (fun y => if y = nm then v2 else if y = fg then v3 else (fun z => if z = nm then v else if z = fg then mf else b z) y) = fun z => if z = nm then v2 else if z = fg then v3 else b z := by
  funext z
  by_cases h1 : z = nm
  · simp only [h1, if_true]
  · by_cases h2 : z = fg
    · simp only [h2, if_true]
    · simp only [h1, h2, if_false]
theorem valOf_snoc (l : List Nat) (i c : Nat) (h : l[i]? = some c) : valOf (l.take (i + 1)) = valOf (l.take i) * 10 + (c - 48) := by
  rw [List.take_add_one, h, Option.toList_some, valOf_app]
  simp [valOf]
local macro_rules | `(tactic| walk_at "exec For") => `(tactic| (k_here; (rename Fr _ _ _ _ => lF'); (with_unfolding_all refine' For_invVF lF' ?k1 ?k2 ?_; (case k1 => exact rfl); (case k2 => exact rfl); k_whole)))
local macro_rules | `(tactic| walk_at "pyIter str") => `(tactic| (k_here; refine holdW ?_))
local macro_rules | `(tactic| walk_at "call builtin:str.index") => `(tactic| (k_here; refine holdW ?_))
theorem worth_of_ok (l : List Nat) (t : Tok) (hl : ∀ c ∈ l, IsDig c) (hz : l.length ≤ 18) : Con w loose mean mg mb 124 4 [.str (S l) t] led (Back led fun t => .int (valOf l : Nat) t) := by
  unfold Con
  k_fill
  intro dp un gd cn cs a ccd cl outer A₀ base h₀ L m s Q E B F X N T hkf hd hu ret
  refine wpAny_call ?_
  k_dflt (refine' code_def (binds := [("figures", Value.str (S l) t)]) ?k1 ?k2 ?k3 ?k4 ?k5 ?kA ?kF ?kK ?k6 ?k7 ?k8 ?k9 ?kB ?_ ?c2 ?c3 ?c4 ?c5; (case kA => exact rfl); (case kF => exact rfl); (case kK => assumption); (case k1 => k_asm); (case k2 => k_asm); (case k3 => k_asm); (case k4 => k_asm); (case k5 => k_asm); (case k6 => k_is); (case k7 => k_is); (case k8 => ktr_room); (case k9 => first | exact BindsTo.of_eq rfl | exact kp_binds (by k_in) (fun _ => by kernel_rfl)); (case c5 => decide); (case kB => exact locs rfl); (case c2 => exact rfl); (case c3 => exact rfl); (case c4 => exact rfl); k_whole; intro g' L' h' FG' F' N' B' X' T'; (try dsimp only); (try k_lift B'); (try k_fold))
  k_steps
  refine iter_text (fun i m => ∃ t2 mf, m = (fun z => if z = Str.ofString "number" then some (.int ((valOf (l.take i) : Nat) : Int) t2) else if z = Str.ofString "figure" then mf else (List.lookup z [(Str.ofString "figures", Value.str (S l) t)].reverse))) ?ha (by rfl) (by k_asm) (by k_asm) ?start ?turn ?fin
  case ha =>
    show l.toArray.all (· < 128) = true
    rw [List.all_toArray, List.all_eq_true]
    intro c hc
    have := hl c hc
    exact decide_eq_true (by have := this.2; omega)
  case start =>
    exact ⟨_, none, map_start rfl⟩
  case turn =>
    rintro I it i m2 h2 tk2 t3 hlt hi ⟨t2, mf, rfl⟩ F2 N2
    have hit := (N2 _ (List.mem_cons_self ..)).1
    have hi' : i < l.length := by simpa using hi
    have hc := List.getElem?_eq_getElem hi'
    have hd := hl _ (List.getElem_mem hi')
    rw [item_S hc] at F2
    have hv := valOf_snoc l i _ hc
    k_steps
    refine index_call (index_dig hd) ?_
    k_steps
    refine ⟨_, _, _, _, rfl, by k_asm, by k_asm, fun p hp => hp, ⟨_, .head _, hit⟩, ?_⟩
    have hv' : ((valOf (l.take (i + 1)) : Nat) : Int) = ((valOf (l.take i) : Nat) : Int) * 10 + ((l[i] - 48 : Nat) : Int) := by rw [hv]; omega
    dsimp only
    rw [hv']
    exact ⟨_, _, map_turn⟩
  case fin =>
    rintro m2 h2 tk2 ⟨t2, mf, rfl⟩ F2 N2
    rw [show l.toArray.size = l.length from by simp, List.take_length] at F2
    k_steps
    exact ret _ _ _ _ (by k_asm) (by k_asm) ⟨rfl, _, rfl⟩
end
end
theorem flush_28 : True := by
  w_top off
  first | walk1 | trivial
section
open PySem PySem.W PyProof.Rows PySem.Calls
set_option Elab.async false
set_option maxRecDepth 100000
set_option maxHeartbeats 0
section
variable {w : World} {loose : List Str} {mean : ExcName → Option Value} {mg mb : Str → Option Value} {led : Led}
abbrev rdObj (w : World) (l nm sh : Addr) (i : Nat) (t1 t2 t3 t4 t5 : Tok) : Obj := dictOf [⟨PyData.keyHash w.params "tokens", .str "tokens" t1, .ref l⟩, ⟨PyData.keyHash w.params "at", .str "at" t2, .int (i : Int) t3⟩, ⟨PyData.keyHash w.params "named", .str "named" t4, .ref nm⟩, ⟨PyData.keyHash w.params "shared", .str "shared" t5, .ref sh⟩] 4
def Pk (w : World) (led : Led) (vs : List Value) (j : Nat) : Option (Str × Str) → Prop
  | none => vs.length ≤ j
  | some kw => ∃ v, vs[j]? = some v ∧ TokAt w led v kw
def kindIs (o : Option (Str × Str)) (k : Str) : Bool := match o with
  | none => false
  | some kw => kw.1 == k
def signIs (o : Option (Str × Str)) (g : Str) : Bool := match o with
  | none => false
  | some kw => kw.1 == Str.ofString "sign" && kw.2 == g
theorem peek_some (rd d l nm sh : Addr) (i n : Nat) (t1 t2 t3 t4 t5 : Tok) (vs : List Value) (h1 : (rd, instObj 701 d) ∈ led) (h2 : (d, rdObj w l nm sh i t1 t2 t3 t4 t5) ∈ led) (h3 : (l, W.listOf vs.toArray n) ∈ led) (kk : Int) (u : Tok) (v : Value) (hlt : (i : Int) + kk < (vs.length : Int)) (h0 : 0 ≤ (i : Int) + kk) (hm : (i : Int) + kk ≤ 1000) (hz : vs.length ≤ 1000) (hx : vs[((i : Int) + kk).toNat]? = some v) : Con w loose mean mg mb 555 3 [.ref rd, .int kk u] led (Back led fun _ => v) := by
  unfold Con
  k_fill
  intro dp un gd cn cs a ccd cl outer A₀ base h₀ L m s Q E B F X N T hkf hd hu ret
  refine wpAny_call ?_
  k_dflt (refine' code_def (binds := [("self", Value.ref rd), ("ahead", Value.int kk u)]) ?k1 ?k2 ?k3 ?k4 ?k5 ?kA ?kF ?kK ?k6 ?k7 ?k8 ?k9 ?kB ?_ ?c2 ?c3 ?c4 ?c5; (case kA => exact rfl); (case kF => exact rfl); (case kK => assumption); (case k1 => k_asm); (case k2 => k_asm); (case k3 => k_asm); (case k4 => k_asm); (case k5 => k_asm); (case k6 => k_is); (case k7 => k_is); (case k8 => ktr_room); (case k9 => first | exact BindsTo.of_eq rfl | exact kp_binds (by k_in) (fun _ => by kernel_rfl)); (case c5 => decide); (case kB => exact locs rfl); (case c2 => exact rfl); (case c3 => exact rfl); (case c4 => exact rfl); k_whole; intro g' L' h' FG' F' N' B' X' T'; (try dsimp only); (try k_lift B'); (try k_fold))
  k_steps
  all_goals exact ret _ _ _ _ (by k_asm) (by k_asm) ⟨rfl, 0, rfl⟩
theorem peek_none (rd d l nm sh : Addr) (i n : Nat) (t1 t2 t3 t4 t5 : Tok) (vs : List Value) (h1 : (rd, instObj 701 d) ∈ led) (h2 : (d, rdObj w l nm sh i t1 t2 t3 t4 t5) ∈ led) (h3 : (l, W.listOf vs.toArray n) ∈ led) (kk : Int) (u : Tok) (hlt : ¬ (i : Int) + kk < (vs.length : Int)) (hz : vs.length ≤ 1000) : Con w loose mean mg mb 555 3 [.ref rd, .int kk u] led (Back led fun _ => .none) := by
  unfold Con
  k_fill
  intro dp un gd cn cs a ccd cl outer A₀ base h₀ L m s Q E B F X N T hkf hd hu ret
  refine wpAny_call ?_
  k_dflt (refine' code_def (binds := [("self", Value.ref rd), ("ahead", Value.int kk u)]) ?k1 ?k2 ?k3 ?k4 ?k5 ?kA ?kF ?kK ?k6 ?k7 ?k8 ?k9 ?kB ?_ ?c2 ?c3 ?c4 ?c5; (case kA => exact rfl); (case kF => exact rfl); (case kK => assumption); (case k1 => k_asm); (case k2 => k_asm); (case k3 => k_asm); (case k4 => k_asm); (case k5 => k_asm); (case k6 => k_is); (case k7 => k_is); (case k8 => ktr_room); (case k9 => first | exact BindsTo.of_eq rfl | exact kp_binds (by k_in) (fun _ => by kernel_rfl)); (case c5 => decide); (case kB => exact locs rfl); (case c2 => exact rfl); (case c3 => exact rfl); (case c4 => exact rfl); k_whole; intro g' L' h' FG' F' N' B' X' T'; (try dsimp only); (try k_lift B'); (try k_fold))
  k_steps
  all_goals exact ret _ _ _ _ (by k_asm) (by k_asm) ⟨rfl, 0, rfl⟩
theorem peek_some0 (rd d l nm sh : Addr) (i n : Nat) (t1 t2 t3 t4 t5 : Tok) (vs : List Value) (h1 : (rd, instObj 701 d) ∈ led) (h2 : (d, rdObj w l nm sh i t1 t2 t3 t4 t5) ∈ led) (h3 : (l, W.listOf vs.toArray n) ∈ led) (v : Value) (hlt : (i : Int) + 0 < (vs.length : Int)) (h0 : 0 ≤ (i : Int) + 0) (hm : (i : Int) + 0 ≤ 1000) (hz : vs.length ≤ 1000) (hx : vs[((i : Int) + 0).toNat]? = some v) : Con w loose mean mg mb 555 3 [.ref rd] led (Back led fun _ => v) := by
  unfold Con
  k_fill
  intro dp un gd cn cs a ccd cl outer A₀ base h₀ L m s Q E B F X N T hkf hd hu ret
  refine wpAny_call ?_
  k_dflt (refine' code_def (binds := [("self", Value.ref rd), ("ahead", Value.int 0 991)]) ?k1 ?k2 ?k3 ?k4 ?k5 ?kA ?kF ?kK ?k6 ?k7 ?k8 ?k9 ?kB ?_ ?c2 ?c3 ?c4 ?c5; (case kA => exact rfl); (case kF => exact rfl); (case kK => assumption); (case k1 => k_asm); (case k2 => k_asm); (case k3 => k_asm); (case k4 => k_asm); (case k5 => k_asm); (case k6 => k_is); (case k7 => k_is); (case k8 => ktr_room); (case k9 => first | exact BindsTo.of_eq rfl | exact kp_binds (by k_in) (fun _ => by kernel_rfl)); (case c5 => decide); (case kB => exact locs rfl); (case c2 => exact rfl); (case c3 => exact rfl); (case c4 => exact rfl); k_whole; intro g' L' h' FG' F' N' B' X' T'; (try dsimp only); (try k_lift B'); (try k_fold))
  k_steps
  all_goals exact ret _ _ _ _ (by k_asm) (by k_asm) ⟨rfl, 0, rfl⟩
theorem peek_none0 (rd d l nm sh : Addr) (i n : Nat) (t1 t2 t3 t4 t5 : Tok) (vs : List Value) (h1 : (rd, instObj 701 d) ∈ led) (h2 : (d, rdObj w l nm sh i t1 t2 t3 t4 t5) ∈ led) (h3 : (l, W.listOf vs.toArray n) ∈ led) (hlt : ¬ (i : Int) + 0 < (vs.length : Int)) (hz : vs.length ≤ 1000) : Con w loose mean mg mb 555 3 [.ref rd] led (Back led fun _ => .none) := by
  unfold Con
  k_fill
  intro dp un gd cn cs a ccd cl outer A₀ base h₀ L m s Q E B F X N T hkf hd hu ret
  refine wpAny_call ?_
  k_dflt (refine' code_def (binds := [("self", Value.ref rd), ("ahead", Value.int 0 991)]) ?k1 ?k2 ?k3 ?k4 ?k5 ?kA ?kF ?kK ?k6 ?k7 ?k8 ?k9 ?kB ?_ ?c2 ?c3 ?c4 ?c5; (case kA => exact rfl); (case kF => exact rfl); (case kK => assumption); (case k1 => k_asm); (case k2 => k_asm); (case k3 => k_asm); (case k4 => k_asm); (case k5 => k_asm); (case k6 => k_is); (case k7 => k_is); (case k8 => ktr_room); (case k9 => first | exact BindsTo.of_eq rfl | exact kp_binds (by k_in) (fun _ => by kernel_rfl)); (case c5 => decide); (case kB => exact locs rfl); (case c2 => exact rfl); (case c3 => exact rfl); (case c4 => exact rfl); k_whole; intro g' L' h' FG' F' N' B' X' T'; (try dsimp only); (try k_lift B'); (try k_fold))
  k_steps
  all_goals exact ret _ _ _ _ (by k_asm) (by k_asm) ⟨rfl, 0, rfl⟩
theorem peek_v (rd d l nm sh : Addr) (i n : Nat) (t1 t2 t3 t4 t5 : Tok) (vs : List Value) (h1 : (rd, instObj 701 d) ∈ led) (h2 : (d, rdObj w l nm sh i t1 t2 t3 t4 t5) ∈ led) (h3 : (l, W.listOf vs.toArray n) ∈ led) (kk : Int) (u : Tok) (j : Nat) (v : Value) (hj : (i : Int) + kk = (j : Int)) (hm : j ≤ 1000) (hz : vs.length ≤ 1000) (hx : vs[j]? = some v) : Con w loose mean mg mb 555 3 [.ref rd, .int kk u] led (Back led fun _ => v) := by
  have hlt : j < vs.length := by
    rcases Nat.lt_or_ge j vs.length with h | h
    · exact h
    · rw [List.getElem?_eq_none h] at hx; cases hx
  exact peek_some rd d l nm sh i n t1 t2 t3 t4 t5 vs h1 h2 h3 kk u v (by omega) (by omega) (by omega) hz (by rw [hj]; exact hx)
theorem peek_v0 (rd d l nm sh : Addr) (i n : Nat) (t1 t2 t3 t4 t5 : Tok) (vs : List Value) (h1 : (rd, instObj 701 d) ∈ led) (h2 : (d, rdObj w l nm sh i t1 t2 t3 t4 t5) ∈ led) (h3 : (l, W.listOf vs.toArray n) ∈ led) (v : Value) (hm : i ≤ 1000) (hz : vs.length ≤ 1000) (hx : vs[i]? = some v) : Con w loose mean mg mb 555 3 [.ref rd] led (Back led fun _ => v) := by
  have hlt : i < vs.length := by
    rcases Nat.lt_or_ge i vs.length with h | h
    · exact h
    · rw [List.getElem?_eq_none h] at hx; cases hx
  exact peek_some0 rd d l nm sh i n t1 t2 t3 t4 t5 vs h1 h2 h3 v (by omega) (by omega) (by omega) hz (by rw [Int.add_zero, Int.toNat_natCast]; exact hx)
theorem is_kind_some (rd d l nm sh : Addr) (i n : Nat) (t1 t2 t3 t4 t5 : Tok) (vs : List Value) (h1 : (rd, instObj 701 d) ∈ led) (h2 : (d, rdObj w l nm sh i t1 t2 t3 t4 t5) ∈ led) (h3 : (l, W.listOf vs.toArray n) ∈ led) (kk : Int) (u : Tok) (hlt : (i : Int) + kk < (vs.length : Int)) (h0 : 0 ≤ (i : Int) + kk) (hm : (i : Int) + kk ≤ 1000) (hz : vs.length ≤ 1000) (b d2 at2 : Addr) (k wd : Str) (u1 u2 u3 u4 u5 u6 : Tok) (hx : vs[((i : Int) + kk).toNat]? = some (.ref b)) (ht1 : (b, instObj 192 d2) ∈ led) (ht2 : (d2, tokObj w k wd at2 u1 u2 u3 u4 u5 u6) ∈ led) (kd : Str) (t : Tok) : Con w loose mean mg mb 584 5 [.ref rd, .str kd t, .int kk u] led (Back led fun _ => .bool (k == kd)) := by
  unfold Con
  k_fill
  intro dp un gd cn cs a ccd cl outer A₀ base h₀ L m s Q E B F X N T hkf hd hu ret
  refine wpAny_call ?_
  k_dflt (refine' code_def (binds := [("self", Value.ref rd), ("kind", Value.str kd t), ("ahead", Value.int kk u)]) ?k1 ?k2 ?k3 ?k4 ?k5 ?kA ?kF ?kK ?k6 ?k7 ?k8 ?k9 ?kB ?_ ?c2 ?c3 ?c4 ?c5; (case kA => exact rfl); (case kF => exact rfl); (case kK => assumption); (case k1 => k_asm); (case k2 => k_asm); (case k3 => k_asm); (case k4 => k_asm); (case k5 => k_asm); (case k6 => k_is); (case k7 => k_is); (case k8 => ktr_room); (case k9 => first | exact BindsTo.of_eq rfl | exact kp_binds (by k_in) (fun _ => by kernel_rfl)); (case c5 => decide); (case kB => exact locs rfl); (case c2 => exact rfl); (case c3 => exact rfl); (case c4 => exact rfl); k_whole; intro g' L' h' FG' F' N' B' X' T'; (try dsimp only); (try k_lift B'); (try k_fold))
  k_steps
  refine useN (by k_asm) (by k_asm) (by k_asm) (by k_asm) (by k_asm) (by first | exact rfl | assumption) (peek_some rd d l nm sh i n t1 t2 t3 t4 t5 vs (by k_mem) (by k_mem) (by k_mem) _ _ _ (by assumption) (by assumption) (by assumption) (by assumption) (by assumption)) (by ktr_room) (by ktr_units) ?_
  intro t9 h9 tk9 F9 N9
  (try dsimp only)
  (try k_fold)
  k_steps
  all_goals exact ret _ _ _ _ (by k_asm) (by k_asm) (backB' (by first | rfl | assumption | simp_all))
theorem is_kind_none (rd d l nm sh : Addr) (i n : Nat) (t1 t2 t3 t4 t5 : Tok) (vs : List Value) (h1 : (rd, instObj 701 d) ∈ led) (h2 : (d, rdObj w l nm sh i t1 t2 t3 t4 t5) ∈ led) (h3 : (l, W.listOf vs.toArray n) ∈ led) (kk : Int) (u : Tok) (hlt : ¬ (i : Int) + kk < (vs.length : Int)) (hz : vs.length ≤ 1000) (kd : Str) (t : Tok) : Con w loose mean mg mb 584 5 [.ref rd, .str kd t, .int kk u] led (Back led fun _ => .bool false) := by
  unfold Con
  k_fill
  intro dp un gd cn cs a ccd cl outer A₀ base h₀ L m s Q E B F X N T hkf hd hu ret
  refine wpAny_call ?_
  k_dflt (refine' code_def (binds := [("self", Value.ref rd), ("kind", Value.str kd t), ("ahead", Value.int kk u)]) ?k1 ?k2 ?k3 ?k4 ?k5 ?kA ?kF ?kK ?k6 ?k7 ?k8 ?k9 ?kB ?_ ?c2 ?c3 ?c4 ?c5; (case kA => exact rfl); (case kF => exact rfl); (case kK => assumption); (case k1 => k_asm); (case k2 => k_asm); (case k3 => k_asm); (case k4 => k_asm); (case k5 => k_asm); (case k6 => k_is); (case k7 => k_is); (case k8 => ktr_room); (case k9 => first | exact BindsTo.of_eq rfl | exact kp_binds (by k_in) (fun _ => by kernel_rfl)); (case c5 => decide); (case kB => exact locs rfl); (case c2 => exact rfl); (case c3 => exact rfl); (case c4 => exact rfl); k_whole; intro g' L' h' FG' F' N' B' X' T'; (try dsimp only); (try k_lift B'); (try k_fold))
  k_steps
  refine useN (by k_asm) (by k_asm) (by k_asm) (by k_asm) (by k_asm) (by first | exact rfl | assumption) (peek_none rd d l nm sh i n t1 t2 t3 t4 t5 vs (by k_mem) (by k_mem) (by k_mem) _ _ (by assumption) (by assumption)) (by ktr_room) (by ktr_units) ?_
  intro t9 h9 tk9 F9 N9
  (try dsimp only)
  (try k_fold)
  k_steps
  all_goals exact ret _ _ _ _ (by k_asm) (by k_asm) (backB' (by first | rfl | assumption | simp_all))
theorem is_kind_some0 (rd d l nm sh : Addr) (i n : Nat) (t1 t2 t3 t4 t5 : Tok) (vs : List Value) (h1 : (rd, instObj 701 d) ∈ led) (h2 : (d, rdObj w l nm sh i t1 t2 t3 t4 t5) ∈ led) (h3 : (l, W.listOf vs.toArray n) ∈ led) (hlt : (i : Int) + 0 < (vs.length : Int)) (h0 : 0 ≤ (i : Int) + 0) (hm : (i : Int) + 0 ≤ 1000) (hz : vs.length ≤ 1000) (b d2 at2 : Addr) (k wd : Str) (u1 u2 u3 u4 u5 u6 : Tok) (hx : vs[((i : Int) + 0).toNat]? = some (.ref b)) (ht1 : (b, instObj 192 d2) ∈ led) (ht2 : (d2, tokObj w k wd at2 u1 u2 u3 u4 u5 u6) ∈ led) (kd : Str) (t : Tok) : Con w loose mean mg mb 584 5 [.ref rd, .str kd t] led (Back led fun _ => .bool (k == kd)) := by
  unfold Con
  k_fill
  intro dp un gd cn cs a ccd cl outer A₀ base h₀ L m s Q E B F X N T hkf hd hu ret
  refine wpAny_call ?_
  k_dflt (refine' code_def (binds := [("self", Value.ref rd), ("kind", Value.str kd t), ("ahead", Value.int 0 1023)]) ?k1 ?k2 ?k3 ?k4 ?k5 ?kA ?kF ?kK ?k6 ?k7 ?k8 ?k9 ?kB ?_ ?c2 ?c3 ?c4 ?c5; (case kA => exact rfl); (case kF => exact rfl); (case kK => assumption); (case k1 => k_asm); (case k2 => k_asm); (case k3 => k_asm); (case k4 => k_asm); (case k5 => k_asm); (case k6 => k_is); (case k7 => k_is); (case k8 => ktr_room); (case k9 => first | exact BindsTo.of_eq rfl | exact kp_binds (by k_in) (fun _ => by kernel_rfl)); (case c5 => decide); (case kB => exact locs rfl); (case c2 => exact rfl); (case c3 => exact rfl); (case c4 => exact rfl); k_whole; intro g' L' h' FG' F' N' B' X' T'; (try dsimp only); (try k_lift B'); (try k_fold))
  k_steps
  refine useN (by k_asm) (by k_asm) (by k_asm) (by k_asm) (by k_asm) (by first | exact rfl | assumption) (peek_some rd d l nm sh i n t1 t2 t3 t4 t5 vs (by k_mem) (by k_mem) (by k_mem) _ _ _ (by assumption) (by assumption) (by assumption) (by assumption) (by assumption)) (by ktr_room) (by ktr_units) ?_
  intro t9 h9 tk9 F9 N9
  (try dsimp only)
  (try k_fold)
  k_steps
  all_goals exact ret _ _ _ _ (by k_asm) (by k_asm) (backB' (by first | rfl | assumption | simp_all))
theorem is_kind_none0 (rd d l nm sh : Addr) (i n : Nat) (t1 t2 t3 t4 t5 : Tok) (vs : List Value) (h1 : (rd, instObj 701 d) ∈ led) (h2 : (d, rdObj w l nm sh i t1 t2 t3 t4 t5) ∈ led) (h3 : (l, W.listOf vs.toArray n) ∈ led) (hlt : ¬ (i : Int) + 0 < (vs.length : Int)) (hz : vs.length ≤ 1000) (kd : Str) (t : Tok) : Con w loose mean mg mb 584 5 [.ref rd, .str kd t] led (Back led fun _ => .bool false) := by
  unfold Con
  k_fill
  intro dp un gd cn cs a ccd cl outer A₀ base h₀ L m s Q E B F X N T hkf hd hu ret
  refine wpAny_call ?_
  k_dflt (refine' code_def (binds := [("self", Value.ref rd), ("kind", Value.str kd t), ("ahead", Value.int 0 1023)]) ?k1 ?k2 ?k3 ?k4 ?k5 ?kA ?kF ?kK ?k6 ?k7 ?k8 ?k9 ?kB ?_ ?c2 ?c3 ?c4 ?c5; (case kA => exact rfl); (case kF => exact rfl); (case kK => assumption); (case k1 => k_asm); (case k2 => k_asm); (case k3 => k_asm); (case k4 => k_asm); (case k5 => k_asm); (case k6 => k_is); (case k7 => k_is); (case k8 => ktr_room); (case k9 => first | exact BindsTo.of_eq rfl | exact kp_binds (by k_in) (fun _ => by kernel_rfl)); (case c5 => decide); (case kB => exact locs rfl); (case c2 => exact rfl); (case c3 => exact rfl); (case c4 => exact rfl); k_whole; intro g' L' h' FG' F' N' B' X' T'; (try dsimp only); (try k_lift B'); (try k_fold))
  k_steps
  refine useN (by k_asm) (by k_asm) (by k_asm) (by k_asm) (by k_asm) (by first | exact rfl | assumption) (peek_none rd d l nm sh i n t1 t2 t3 t4 t5 vs (by k_mem) (by k_mem) (by k_mem) _ _ (by assumption) (by assumption)) (by ktr_room) (by ktr_units) ?_
  intro t9 h9 tk9 F9 N9
  (try dsimp only)
  (try k_fold)
  k_steps
  all_goals exact ret _ _ _ _ (by k_asm) (by k_asm) (backB' (by first | rfl | assumption | simp_all))
theorem lt_of_get {α : Type} {vs : List α} {j : Nat} {v : α} (hx : vs[j]? = some v) : j < vs.length := by
  rcases Nat.lt_or_ge j vs.length with h | h
  · exact h
  · rw [List.getElem?_eq_none h] at hx; cases hx
theorem is_kind_ok (rd d l nm sh : Addr) (i n : Nat) (t1 t2 t3 t4 t5 : Tok) (vs : List Value) (h1 : (rd, instObj 701 d) ∈ led) (h2 : (d, rdObj w l nm sh i t1 t2 t3 t4 t5) ∈ led) (h3 : (l, W.listOf vs.toArray n) ∈ led) (kd : Str) (t : Tok) (kk : Int) (u : Tok) (j : Nat) (o : Option (Str × Str)) (b : Bool) (hj : (i : Int) + kk = (j : Int)) (hm : j ≤ 1000) (hz : vs.length ≤ 1000) (hp : Pk w led vs j o) (hb : kindIs o kd = b) :
    Con w loose mean mg mb 584 5 [.ref rd, .str kd t, .int kk u] led (Back led fun _ => .bool b) := by
  subst hb
  cases o with
  | none =>
    have hp : vs.length ≤ j := hp
    exact is_kind_none rd d l nm sh i n t1 t2 t3 t4 t5 vs h1 h2 h3 kk u (by omega) hz kd t
  | some kw =>
    obtain ⟨v, hx, b, d2, at2, u1, u2, u3, u4, u5, u6, rfl, m1, m2⟩ := hp
    have hlt := lt_of_get hx
    exact is_kind_some rd d l nm sh i n t1 t2 t3 t4 t5 vs h1 h2 h3 kk u (by omega) (by omega) (by omega) hz b d2 at2 kw.1 kw.2 u1 u2 u3 u4 u5 u6 (by rw [hj]; exact hx) m1 m2 kd t
theorem is_kind_ok0 (rd d l nm sh : Addr) (i n : Nat) (t1 t2 t3 t4 t5 : Tok) (vs : List Value) (h1 : (rd, instObj 701 d) ∈ led) (h2 : (d, rdObj w l nm sh i t1 t2 t3 t4 t5) ∈ led) (h3 : (l, W.listOf vs.toArray n) ∈ led) (kd : Str) (t : Tok) (o : Option (Str × Str)) (b : Bool) (hm : i ≤ 1000) (hz : vs.length ≤ 1000) (hp : Pk w led vs i o) (hb : kindIs o kd = b) :
    Con w loose mean mg mb 584 5 [.ref rd, .str kd t] led (Back led fun _ => .bool b) := by
  subst hb
  cases o with
  | none =>
    have hp : vs.length ≤ i := hp
    exact is_kind_none0 rd d l nm sh i n t1 t2 t3 t4 t5 vs h1 h2 h3 (by omega) hz kd t
  | some kw =>
    obtain ⟨v, hx, b, d2, at2, u1, u2, u3, u4, u5, u6, rfl, m1, m2⟩ := hp
    have hlt := lt_of_get hx
    exact is_kind_some0 rd d l nm sh i n t1 t2 t3 t4 t5 vs h1 h2 h3 (by omega) (by omega) (by omega) hz b d2 at2 kw.1 kw.2 u1 u2 u3 u4 u5 u6 (by rw [Int.add_zero, Int.toNat_natCast]; exact hx) m1 m2 kd t
theorem is_sign_no (rd d l nm sh : Addr) (i n : Nat) (t1 t2 t3 t4 t5 : Tok) (vs : List Value) (h1 : (rd, instObj 701 d) ∈ led) (h2 : (d, rdObj w l nm sh i t1 t2 t3 t4 t5) ∈ led) (h3 : (l, W.listOf vs.toArray n) ∈ led) (kk : Int) (u : Tok) (j : Nat) (hj : (i : Int) + kk = (j : Int)) (hm : j ≤ 1000) (hz : vs.length ≤ 1000) (o : Option (Str × Str)) (hp : Pk w led vs j o) (sg : Str) (t : Tok) (hb : kindIs o (Str.ofString "sign") = false) : Con w loose mean mg mb 649 8 [.ref rd, .str sg t, .int kk u] led (Back led fun _ => .bool false) := by
  unfold Con
  k_fill
  intro dp un gd cn cs a ccd cl outer A₀ base h₀ L m s Q E B F X N T hkf hd hu ret
  refine wpAny_call ?_
  k_dflt (refine' code_def (binds := [("self", Value.ref rd), ("sign", Value.str sg t), ("ahead", Value.int kk u)]) ?k1 ?k2 ?k3 ?k4 ?k5 ?kA ?kF ?kK ?k6 ?k7 ?k8 ?k9 ?kB ?_ ?c2 ?c3 ?c4 ?c5; (case kA => exact rfl); (case kF => exact rfl); (case kK => assumption); (case k1 => k_asm); (case k2 => k_asm); (case k3 => k_asm); (case k4 => k_asm); (case k5 => k_asm); (case k6 => k_is); (case k7 => k_is); (case k8 => ktr_room); (case k9 => first | exact BindsTo.of_eq rfl | exact kp_binds (by k_in) (fun _ => by kernel_rfl)); (case c5 => decide); (case kB => exact locs rfl); (case c2 => exact rfl); (case c3 => exact rfl); (case c4 => exact rfl); k_whole; intro g' L' h' FG' F' N' B' X' T'; (try dsimp only); (try k_lift B'); (try k_fold))
  k_steps
  refine useN (by k_asm) (by k_asm) (by k_asm) (by k_asm) (by k_asm) (by first | exact rfl | assumption) (is_kind_ok rd d l nm sh i n t1 t2 t3 t4 t5 vs (by k_mem) (by k_mem) (by k_mem) _ _ _ _ j o _ (by omega) (by assumption) (by assumption) (by assumption) hb) (by ktr_room) (by ktr_units) ?_
  intro t9 h9 tk9 F9 N9
  (try dsimp only)
  (try k_fold)
  k_steps
  all_goals exact ret _ _ _ _ (by k_asm) (by k_asm) (backB' (by first | rfl | assumption | simp_all))
theorem is_sign_yes (rd d l nm sh : Addr) (i n : Nat) (t1 t2 t3 t4 t5 : Tok) (vs : List Value) (h1 : (rd, instObj 701 d) ∈ led) (h2 : (d, rdObj w l nm sh i t1 t2 t3 t4 t5) ∈ led) (h3 : (l, W.listOf vs.toArray n) ∈ led) (kk : Int) (u : Tok) (j : Nat) (hj : (i : Int) + kk = (j : Int)) (hm : j ≤ 1000) (hz : vs.length ≤ 1000) (o : Option (Str × Str)) (hp : Pk w led vs j o) (sg : Str) (t : Tok) (b d2 at2 : Addr) (k wd : Str) (u1 u2 u3 u4 u5 u6 : Tok) (hx : vs[j]? = some (.ref b)) (ht1 : (b, instObj 192 d2) ∈ led) (ht2 : (d2, tokObj w k wd at2 u1 u2 u3 u4 u5 u6) ∈ led) (hb : kindIs o (Str.ofString "sign") = true) : Con w loose mean mg mb 649 8 [.ref rd, .str sg t, .int kk u] led (Back led fun _ => .bool (wd == sg)) := by
  unfold Con
  k_fill
  intro dp un gd cn cs a ccd cl outer A₀ base h₀ L m s Q E B F X N T hkf hd hu ret
  refine wpAny_call ?_
  k_dflt (refine' code_def (binds := [("self", Value.ref rd), ("sign", Value.str sg t), ("ahead", Value.int kk u)]) ?k1 ?k2 ?k3 ?k4 ?k5 ?kA ?kF ?kK ?k6 ?k7 ?k8 ?k9 ?kB ?_ ?c2 ?c3 ?c4 ?c5; (case kA => exact rfl); (case kF => exact rfl); (case kK => assumption); (case k1 => k_asm); (case k2 => k_asm); (case k3 => k_asm); (case k4 => k_asm); (case k5 => k_asm); (case k6 => k_is); (case k7 => k_is); (case k8 => ktr_room); (case k9 => first | exact BindsTo.of_eq rfl | exact kp_binds (by k_in) (fun _ => by kernel_rfl)); (case c5 => decide); (case kB => exact locs rfl); (case c2 => exact rfl); (case c3 => exact rfl); (case c4 => exact rfl); k_whole; intro g' L' h' FG' F' N' B' X' T'; (try dsimp only); (try k_lift B'); (try k_fold))
  k_steps
  refine useN (by k_asm) (by k_asm) (by k_asm) (by k_asm) (by k_asm) (by first | exact rfl | assumption) (is_kind_ok rd d l nm sh i n t1 t2 t3 t4 t5 vs (by k_mem) (by k_mem) (by k_mem) _ _ _ _ j o _ (by omega) (by assumption) (by assumption) (by assumption) hb) (by ktr_room) (by ktr_units) ?_
  intro t9 h9 tk9 F9 N9
  (try dsimp only)
  (try k_fold)
  k_steps
  refine useN (by k_asm) (by k_asm) (by k_asm) (by k_asm) (by k_asm) (by first | exact rfl | assumption) (peek_v rd d l nm sh i n t1 t2 t3 t4 t5 vs (by k_mem) (by k_mem) (by k_mem) _ _ j (.ref b) (by omega) (by assumption) (by assumption) (by assumption)) (by ktr_room) (by ktr_units) ?_
  intro t9 h9 tk9 F9 N9
  (try dsimp only)
  (try k_fold)
  k_steps
  all_goals exact ret _ _ _ _ (by k_asm) (by k_asm) (backB' (by first | rfl | assumption | simp_all))
theorem is_sign_no0 (rd d l nm sh : Addr) (i n : Nat) (t1 t2 t3 t4 t5 : Tok) (vs : List Value) (h1 : (rd, instObj 701 d) ∈ led) (h2 : (d, rdObj w l nm sh i t1 t2 t3 t4 t5) ∈ led) (h3 : (l, W.listOf vs.toArray n) ∈ led) (hm : i ≤ 1000) (hz : vs.length ≤ 1000) (o : Option (Str × Str)) (hp : Pk w led vs i o) (sg : Str) (t : Tok) (hb : kindIs o (Str.ofString "sign") = false) : Con w loose mean mg mb 649 8 [.ref rd, .str sg t] led (Back led fun _ => .bool false) := by
  unfold Con
  k_fill
  intro dp un gd cn cs a ccd cl outer A₀ base h₀ L m s Q E B F X N T hkf hd hu ret
  refine wpAny_call ?_
  k_dflt (refine' code_def (binds := [("self", Value.ref rd), ("sign", Value.str sg t), ("ahead", Value.int 0 1099)]) ?k1 ?k2 ?k3 ?k4 ?k5 ?kA ?kF ?kK ?k6 ?k7 ?k8 ?k9 ?kB ?_ ?c2 ?c3 ?c4 ?c5; (case kA => exact rfl); (case kF => exact rfl); (case kK => assumption); (case k1 => k_asm); (case k2 => k_asm); (case k3 => k_asm); (case k4 => k_asm); (case k5 => k_asm); (case k6 => k_is); (case k7 => k_is); (case k8 => ktr_room); (case k9 => first | exact BindsTo.of_eq rfl | exact kp_binds (by k_in) (fun _ => by kernel_rfl)); (case c5 => decide); (case kB => exact locs rfl); (case c2 => exact rfl); (case c3 => exact rfl); (case c4 => exact rfl); k_whole; intro g' L' h' FG' F' N' B' X' T'; (try dsimp only); (try k_lift B'); (try k_fold))
  k_steps
  refine useN (by k_asm) (by k_asm) (by k_asm) (by k_asm) (by k_asm) (by first | exact rfl | assumption) (is_kind_ok rd d l nm sh i n t1 t2 t3 t4 t5 vs (by k_mem) (by k_mem) (by k_mem) _ _ _ _ i o _ (by omega) (by assumption) (by assumption) (by assumption) hb) (by ktr_room) (by ktr_units) ?_
  intro t9 h9 tk9 F9 N9
  (try dsimp only)
  (try k_fold)
  k_steps
  all_goals exact ret _ _ _ _ (by k_asm) (by k_asm) (backB' (by first | rfl | assumption | simp_all))
theorem is_sign_yes0 (rd d l nm sh : Addr) (i n : Nat) (t1 t2 t3 t4 t5 : Tok) (vs : List Value) (h1 : (rd, instObj 701 d) ∈ led) (h2 : (d, rdObj w l nm sh i t1 t2 t3 t4 t5) ∈ led) (h3 : (l, W.listOf vs.toArray n) ∈ led) (hm : i ≤ 1000) (hz : vs.length ≤ 1000) (o : Option (Str × Str)) (hp : Pk w led vs i o) (sg : Str) (t : Tok) (b d2 at2 : Addr) (k wd : Str) (u1 u2 u3 u4 u5 u6 : Tok) (hx : vs[i]? = some (.ref b)) (ht1 : (b, instObj 192 d2) ∈ led) (ht2 : (d2, tokObj w k wd at2 u1 u2 u3 u4 u5 u6) ∈ led) (hb : kindIs o (Str.ofString "sign") = true) : Con w loose mean mg mb 649 8 [.ref rd, .str sg t] led (Back led fun _ => .bool (wd == sg)) := by
  unfold Con
  k_fill
  intro dp un gd cn cs a ccd cl outer A₀ base h₀ L m s Q E B F X N T hkf hd hu ret
  refine wpAny_call ?_
  k_dflt (refine' code_def (binds := [("self", Value.ref rd), ("sign", Value.str sg t), ("ahead", Value.int 0 1099)]) ?k1 ?k2 ?k3 ?k4 ?k5 ?kA ?kF ?kK ?k6 ?k7 ?k8 ?k9 ?kB ?_ ?c2 ?c3 ?c4 ?c5; (case kA => exact rfl); (case kF => exact rfl); (case kK => assumption); (case k1 => k_asm); (case k2 => k_asm); (case k3 => k_asm); (case k4 => k_asm); (case k5 => k_asm); (case k6 => k_is); (case k7 => k_is); (case k8 => ktr_room); (case k9 => first | exact BindsTo.of_eq rfl | exact kp_binds (by k_in) (fun _ => by kernel_rfl)); (case c5 => decide); (case kB => exact locs rfl); (case c2 => exact rfl); (case c3 => exact rfl); (case c4 => exact rfl); k_whole; intro g' L' h' FG' F' N' B' X' T'; (try dsimp only); (try k_lift B'); (try k_fold))
  k_steps
  refine useN (by k_asm) (by k_asm) (by k_asm) (by k_asm) (by k_asm) (by first | exact rfl | assumption) (is_kind_ok rd d l nm sh i n t1 t2 t3 t4 t5 vs (by k_mem) (by k_mem) (by k_mem) _ _ _ _ i o _ (by omega) (by assumption) (by assumption) (by assumption) hb) (by ktr_room) (by ktr_units) ?_
  intro t9 h9 tk9 F9 N9
  (try dsimp only)
  (try k_fold)
  k_steps
  refine useN (by k_asm) (by k_asm) (by k_asm) (by k_asm) (by k_asm) (by first | exact rfl | assumption) (peek_v rd d l nm sh i n t1 t2 t3 t4 t5 vs (by k_mem) (by k_mem) (by k_mem) _ _ i (.ref b) (by omega) (by assumption) (by assumption) (by assumption)) (by ktr_room) (by ktr_units) ?_
  intro t9 h9 tk9 F9 N9
  (try dsimp only)
  (try k_fold)
  k_steps
  all_goals exact ret _ _ _ _ (by k_asm) (by k_asm) (backB' (by first | rfl | assumption | simp_all))
theorem is_sign_ok (rd d l nm sh : Addr) (i n : Nat) (t1 t2 t3 t4 t5 : Tok) (vs : List Value) (h1 : (rd, instObj 701 d) ∈ led) (h2 : (d, rdObj w l nm sh i t1 t2 t3 t4 t5) ∈ led) (h3 : (l, W.listOf vs.toArray n) ∈ led) (sg : Str) (t : Tok) (kk : Int) (u : Tok) (j : Nat) (o : Option (Str × Str)) (b : Bool) (hj : (i : Int) + kk = (j : Int)) (hm : j ≤ 1000) (hz : vs.length ≤ 1000) (hp : Pk w led vs j o) (hb : signIs o sg = b) :
    Con w loose mean mg mb 649 8 [.ref rd, .str sg t, .int kk u] led (Back led fun _ => .bool b) := by
  subst hb
  cases hk : kindIs o (Str.ofString "sign") with
  | false =>
    have e : signIs o sg = false := by
      cases o with
      | none => rfl
      | some kw => show (kw.1 == Str.ofString "sign" && kw.2 == sg) = false; rw [show (kw.1 == Str.ofString "sign") = false from hk]; rfl
    rw [e]
    exact is_sign_no rd d l nm sh i n t1 t2 t3 t4 t5 vs h1 h2 h3 kk u j hj hm hz o hp sg t hk
  | true =>
    cases o with
    | none => cases hk
    | some kw =>
      have e : signIs (some kw) sg = (kw.2 == sg) := by show (kw.1 == Str.ofString "sign" && kw.2 == sg) = _; rw [show (kw.1 == Str.ofString "sign") = true from hk]; rfl
      rw [e]
      have hp' := hp
      obtain ⟨v, hx, b, d2, at2, u1, u2, u3, u4, u5, u6, rfl, m1, m2⟩ := hp
      exact is_sign_yes rd d l nm sh i n t1 t2 t3 t4 t5 vs h1 h2 h3 kk u j hj hm hz _ hp' sg t b d2 at2 kw.1 kw.2 u1 u2 u3 u4 u5 u6 hx m1 m2 hk
theorem is_sign_ok0 (rd d l nm sh : Addr) (i n : Nat) (t1 t2 t3 t4 t5 : Tok) (vs : List Value) (h1 : (rd, instObj 701 d) ∈ led) (h2 : (d, rdObj w l nm sh i t1 t2 t3 t4 t5) ∈ led) (h3 : (l, W.listOf vs.toArray n) ∈ led) (sg : Str) (t : Tok) (o : Option (Str × Str)) (b : Bool) (hm : i ≤ 1000) (hz : vs.length ≤ 1000) (hp : Pk w led vs i o) (hb : signIs o sg = b) :
    Con w loose mean mg mb 649 8 [.ref rd, .str sg t] led (Back led fun _ => .bool b) := by
  subst hb
  cases hk : kindIs o (Str.ofString "sign") with
  | false =>
    have e : signIs o sg = false := by
      cases o with
      | none => rfl
      | some kw => show (kw.1 == Str.ofString "sign" && kw.2 == sg) = false; rw [show (kw.1 == Str.ofString "sign") = false from hk]; rfl
    rw [e]
    exact is_sign_no0 rd d l nm sh i n t1 t2 t3 t4 t5 vs h1 h2 h3 hm hz o hp sg t hk
  | true =>
    cases o with
    | none => cases hk
    | some kw =>
      have e : signIs (some kw) sg = (kw.2 == sg) := by show (kw.1 == Str.ofString "sign" && kw.2 == sg) = _; rw [show (kw.1 == Str.ofString "sign") = true from hk]; rfl
      rw [e]
      have hp' := hp
      obtain ⟨v, hx, b, d2, at2, u1, u2, u3, u4, u5, u6, rfl, m1, m2⟩ := hp
      exact is_sign_yes0 rd d l nm sh i n t1 t2 t3 t4 t5 vs h1 h2 h3 hm hz _ hp' sg t b d2 at2 kw.1 kw.2 u1 u2 u3 u4 u5 u6 hx m1 m2 hk
end
end
theorem flush_29 : True := by
  w_top off
  first | walk1 | trivial
section
open PySem PySem.W PyProof.Rows PySem.Calls
set_option Elab.async false
set_option maxRecDepth 100000
set_option maxHeartbeats 0
section
variable {w : World} {loose : List Str} {mean : ExcName → Option Value} {mg mb : Str → Option Value} {led : Led}
theorem Pk.mono {w : World} {led led' : Led} {vs : List Value} {j : Nat} {o : Option (Str × Str)} (h : Pk w led vs j o) (hs : ∀ p ∈ led, p ∈ led') : Pk w led' vs j o := by
  cases o with
  | none => exact h
  | some kw =>
    obtain ⟨v, hx, t⟩ := h
    exact ⟨v, hx, t.mono hs⟩
theorem skip_sign_no (rd d l nm sh : Addr) (i n : Nat) (t1 t2 t3 t4 t5 : Tok) (vs : List Value) (h1 : (rd, instObj 701 d) ∈ led) (h2 : (d, rdObj w l nm sh i t1 t2 t3 t4 t5) ∈ led) (h3 : (l, W.listOf vs.toArray n) ∈ led) (hm : i ≤ 1000) (hz : vs.length ≤ 1000) (o : Option (Str × Str)) (hp : Pk w led vs i o) (sg : Str) (t : Tok) (hb : signIs o sg = false) : Con w loose mean mg mb 656 12 [.ref rd, .str sg t] led (Back led fun _ => .bool false) := by
  unfold Con
  k_fill
  intro dp un gd cn cs a ccd cl outer A₀ base h₀ L m s Q E B F X N T hkf hd hu ret
  refine wpAny_call ?_
  k_dflt (refine' code_def (binds := [("self", Value.ref rd), ("sign", Value.str sg t)]) ?k1 ?k2 ?k3 ?k4 ?k5 ?kA ?kF ?kK ?k6 ?k7 ?k8 ?k9 ?kB ?_ ?c2 ?c3 ?c4 ?c5; (case kA => exact rfl); (case kF => exact rfl); (case kK => assumption); (case k1 => k_asm); (case k2 => k_asm); (case k3 => k_asm); (case k4 => k_asm); (case k5 => k_asm); (case k6 => k_is); (case k7 => k_is); (case k8 => ktr_room); (case k9 => first | exact BindsTo.of_eq rfl | exact kp_binds (by k_in) (fun _ => by kernel_rfl)); (case c5 => decide); (case kB => exact locs rfl); (case c2 => exact rfl); (case c3 => exact rfl); (case c4 => exact rfl); k_whole; intro g' L' h' FG' F' N' B' X' T'; (try dsimp only); (try k_lift B'); (try k_fold))
  k_steps
  refine useN (by k_asm) (by k_asm) (by k_asm) (by k_asm) (by k_asm) (by first | exact rfl | assumption) (is_sign_ok0 rd d l nm sh i n t1 t2 t3 t4 t5 vs (by k_mem) (by k_mem) (by k_mem) _ _ o _ (by assumption) (by assumption) (by assumption) hb) (by ktr_room) (by ktr_units) ?_
  intro t9 h9 tk9 F9 N9
  (try dsimp only)
  (try k_fold)
  k_steps
  all_goals exact ret _ _ _ _ (by k_asm) (by k_asm) (backB' (by first | rfl | assumption | simp_all))
theorem skip_sign_yes (rd d l nm sh : Addr) (i n : Nat) (t1 t2 t3 t4 t5 : Tok) (vs : List Value) (h1 : (rd, instObj 701 d) ∈ led) (h3 : (l, W.listOf vs.toArray n) ∈ led) (hne : ∀ p ∈ led, p.1 ≠ d) (hm : i ≤ 1000) (hz : vs.length ≤ 1000) (o : Option (Str × Str)) (hp : Pk w led vs i o) (sg : Str) (t : Tok) (hb : signIs o sg = true) : Con w loose mean mg mb 656 12 [.ref rd, .str sg t] ((d, rdObj w l nm sh i t1 t2 t3 t4 t5) :: led) (fun r led' => r = .bool true ∧ ∃ t, led' = (d, rdObj w l nm sh (i + 1) t1 t2 t t4 t5) :: led) := by
  unfold Con
  k_fill
  intro dp un gd cn cs a ccd cl outer A₀ base h₀ L m s Q E B F X N T hkf hd hu ret
  have hp2 : Pk w ((d, rdObj w l nm sh i t1 t2 t3 t4 t5) :: led) vs i o := hp.mono fun p h => List.mem_cons_of_mem _ h
  refine wpAny_call ?_
  k_dflt (refine' code_def (binds := [("self", Value.ref rd), ("sign", Value.str sg t)]) ?k1 ?k2 ?k3 ?k4 ?k5 ?kA ?kF ?kK ?k6 ?k7 ?k8 ?k9 ?kB ?_ ?c2 ?c3 ?c4 ?c5; (case kA => exact rfl); (case kF => exact rfl); (case kK => assumption); (case k1 => k_asm); (case k2 => k_asm); (case k3 => k_asm); (case k4 => k_asm); (case k5 => k_asm); (case k6 => k_is); (case k7 => k_is); (case k8 => ktr_room); (case k9 => first | exact BindsTo.of_eq rfl | exact kp_binds (by k_in) (fun _ => by kernel_rfl)); (case c5 => decide); (case kB => exact locs rfl); (case c2 => exact rfl); (case c3 => exact rfl); (case c4 => exact rfl); k_whole; intro g' L' h' FG' F' N' B' X' T'; (try dsimp only); (try k_lift B'); (try k_fold))
  k_steps
  refine useN (by k_asm) (by k_asm) (by k_asm) (by k_asm) (by k_asm) (by first | exact rfl | assumption) (is_sign_ok0 rd d l nm sh i n t1 t2 t3 t4 t5 vs (by k_mem) (by k_mem) (by k_mem) _ _ o _ (by assumption) (by assumption) (by assumption) hb) (by ktr_room) (by ktr_units) ?_
  intro t9 h9 tk9 F9 N9
  (try dsimp only)
  (try k_fold)
  k_steps
  all_goals exact ret _ _ _ _ (by k_asm) (by k_asm) ⟨rfl, _, rfl⟩
theorem take_ok (rd d l nm sh : Addr) (i n : Nat) (t1 t2 t3 t4 t5 : Tok) (vs : List Value) (h1 : (rd, instObj 701 d) ∈ led) (h3 : (l, W.listOf vs.toArray n) ∈ led) (hne : ∀ p ∈ led, p.1 ≠ d) (hm : i ≤ 1000) (hz : vs.length ≤ 1000) (b : Addr) (hx : vs[i]? = some (.ref b)) : Con w loose mean mg mb 576 12 [.ref rd] ((d, rdObj w l nm sh i t1 t2 t3 t4 t5) :: led) (fun r led' => r = .ref b ∧ ∃ t, led' = (d, rdObj w l nm sh (i + 1) t1 t2 t t4 t5) :: led) := by
  unfold Con
  k_fill
  intro dp un gd cn cs a ccd cl outer A₀ base h₀ L m s Q E B F X N T hkf hd hu ret
  refine wpAny_call ?_
  k_dflt (refine' code_def (binds := [("self", Value.ref rd)]) ?k1 ?k2 ?k3 ?k4 ?k5 ?kA ?kF ?kK ?k6 ?k7 ?k8 ?k9 ?kB ?_ ?c2 ?c3 ?c4 ?c5; (case kA => exact rfl); (case kF => exact rfl); (case kK => assumption); (case k1 => k_asm); (case k2 => k_asm); (case k3 => k_asm); (case k4 => k_asm); (case k5 => k_asm); (case k6 => k_is); (case k7 => k_is); (case k8 => ktr_room); (case k9 => first | exact BindsTo.of_eq rfl | exact kp_binds (by k_in) (fun _ => by kernel_rfl)); (case c5 => decide); (case kB => exact locs rfl); (case c2 => exact rfl); (case c3 => exact rfl); (case c4 => exact rfl); k_whole; intro g' L' h' FG' F' N' B' X' T'; (try dsimp only); (try k_lift B'); (try k_fold))
  k_steps
  refine useN (by k_asm) (by k_asm) (by k_asm) (by k_asm) (by k_asm) (by first | exact rfl | assumption) (peek_v0 rd d l nm sh i n t1 t2 t3 t4 t5 vs (by k_mem) (by k_mem) (by k_mem) _ (by assumption) (by assumption) hx) (by ktr_room) (by ktr_units) ?_
  intro t9 h9 tk9 F9 N9
  (try dsimp only)
  (try k_fold)
  k_steps
  all_goals exact ret _ _ _ _ (by k_asm) (by k_asm) ⟨rfl, _, rfl⟩
theorem is_done_ok (rd d l nm sh : Addr) (i n : Nat) (t1 t2 t3 t4 t5 : Tok) (vs : List Value) (h1 : (rd, instObj 701 d) ∈ led) (h2 : (d, rdObj w l nm sh i t1 t2 t3 t4 t5) ∈ led) (h3 : (l, W.listOf vs.toArray n) ∈ led) (hz : vs.length ≤ 1000) (b : Bool) (hb : decide ((i : Int) ≥ (vs.length : Int)) = b) : Con w loose mean mg mb 562 4 [.ref rd] led (Back led fun _ => .bool b) := by
  unfold Con
  k_fill
  intro dp un gd cn cs a ccd cl outer A₀ base h₀ L m s Q E B F X N T hkf hd hu ret
  subst hb
  refine wpAny_call ?_
  k_dflt (refine' code_def (binds := [("self", Value.ref rd)]) ?k1 ?k2 ?k3 ?k4 ?k5 ?kA ?kF ?kK ?k6 ?k7 ?k8 ?k9 ?kB ?_ ?c2 ?c3 ?c4 ?c5; (case kA => exact rfl); (case kF => exact rfl); (case kK => assumption); (case k1 => k_asm); (case k2 => k_asm); (case k3 => k_asm); (case k4 => k_asm); (case k5 => k_asm); (case k6 => k_is); (case k7 => k_is); (case k8 => ktr_room); (case k9 => first | exact BindsTo.of_eq rfl | exact kp_binds (by k_in) (fun _ => by kernel_rfl)); (case c5 => decide); (case kB => exact locs rfl); (case c2 => exact rfl); (case c3 => exact rfl); (case c4 => exact rfl); k_whole; intro g' L' h' FG' F' N' B' X' T'; (try dsimp only); (try k_lift B'); (try k_fold))
  k_steps
  all_goals exact ret _ _ _ _ (by k_asm) (by k_asm) (backB' (by first | rfl | assumption | simp_all))
theorem is_word_no_OF (rd d l nm sh : Addr) (i n : Nat) (t1 t2 t3 t4 t5 : Tok) (vs : List Value) (h1 : (rd, instObj 701 d) ∈ led) (h2 : (d, rdObj w l nm sh i t1 t2 t3 t4 t5) ∈ led) (h3 : (l, W.listOf vs.toArray n) ∈ led) (hm : i ≤ 1000) (hz : vs.length ≤ 1000) (o : Option (Str × Str)) (hp : Pk w led vs i o) (t : Tok) (hb : kindIs o (Str.ofString "word") = false) : Con w loose mean mg mb 591 9 [.ref rd, .str (Str.ofString "OF") t] led (Back led fun _ => .bool false) := by
  unfold Con
  k_fill
  intro dp un gd cn cs a ccd cl outer A₀ base h₀ L m s Q E B F X N T hkf hd hu ret
  refine wpAny_call ?_
  k_dflt (refine' code_def (binds := [("self", Value.ref rd), ("words", Value.str (Str.ofString "OF") t)]) ?k1 ?k2 ?k3 ?k4 ?k5 ?kA ?kF ?kK ?k6 ?k7 ?k8 ?k9 ?kB ?_ ?c2 ?c3 ?c4 ?c5; (case kA => exact rfl); (case kF => exact rfl); (case kK => assumption); (case k1 => k_asm); (case k2 => k_asm); (case k3 => k_asm); (case k4 => k_asm); (case k5 => k_asm); (case k6 => k_is); (case k7 => k_is); (case k8 => ktr_room); (case k9 => first | exact BindsTo.of_eq rfl | exact kp_binds (by k_in) (fun _ => by kernel_rfl)); (case c5 => decide); (case kB => exact locs rfl); (case c2 => exact rfl); (case c3 => exact rfl); (case c4 => exact rfl); k_whole; intro g' L' h' FG' F' N' B' X' T'; (try dsimp only); (try k_lift B'); (try k_fold))
  k_steps
  with_unfolding_all refine iter_listUnr (vs := [_]) (by rfl) (by k_asm) (by k_asm) (by k_mem) (by rfl) (by rfl) ?_
  intro I9 l9
  k_steps
  refine useN (by k_asm) (by k_asm) (by k_asm) (by k_asm) (by k_asm) (by first | exact rfl | assumption) (is_kind_ok rd d l nm sh i n t1 t2 t3 t4 t5 vs (by k_mem) (by k_mem) (by k_mem) _ _ _ _ i o _ (by omega) (by assumption) (by assumption) (hp.mono (by first | exact sub_self | exact sub_more sub_self | exact sub_more (sub_more sub_self) | exact sub_more (sub_more (sub_more sub_self)))) hb) (by ktr_room) (by ktr_units) ?_
  intro t9 h9 tk9 F9 N9
  (try dsimp only)
  (try k_fold)
  k_steps
  all_goals exact ret _ led _ _ (by k_asm) (by first | k_asm | exact news_sub (by k_asm) (by first | exact sub_self | exact sub_more sub_self | exact sub_more (sub_more sub_self) | exact sub_more (sub_more (sub_more sub_self)))) (backB' (by first | rfl | assumption | simp_all))
theorem is_word_no_IN (rd d l nm sh : Addr) (i n : Nat) (t1 t2 t3 t4 t5 : Tok) (vs : List Value) (h1 : (rd, instObj 701 d) ∈ led) (h2 : (d, rdObj w l nm sh i t1 t2 t3 t4 t5) ∈ led) (h3 : (l, W.listOf vs.toArray n) ∈ led) (hm : i ≤ 1000) (hz : vs.length ≤ 1000) (o : Option (Str × Str)) (hp : Pk w led vs i o) (t : Tok) (hb : kindIs o (Str.ofString "word") = false) : Con w loose mean mg mb 591 9 [.ref rd, .str (Str.ofString "IN") t] led (Back led fun _ => .bool false) := by
  unfold Con
  k_fill
  intro dp un gd cn cs a ccd cl outer A₀ base h₀ L m s Q E B F X N T hkf hd hu ret
  refine wpAny_call ?_
  k_dflt (refine' code_def (binds := [("self", Value.ref rd), ("words", Value.str (Str.ofString "IN") t)]) ?k1 ?k2 ?k3 ?k4 ?k5 ?kA ?kF ?kK ?k6 ?k7 ?k8 ?k9 ?kB ?_ ?c2 ?c3 ?c4 ?c5; (case kA => exact rfl); (case kF => exact rfl); (case kK => assumption); (case k1 => k_asm); (case k2 => k_asm); (case k3 => k_asm); (case k4 => k_asm); (case k5 => k_asm); (case k6 => k_is); (case k7 => k_is); (case k8 => ktr_room); (case k9 => first | exact BindsTo.of_eq rfl | exact kp_binds (by k_in) (fun _ => by kernel_rfl)); (case c5 => decide); (case kB => exact locs rfl); (case c2 => exact rfl); (case c3 => exact rfl); (case c4 => exact rfl); k_whole; intro g' L' h' FG' F' N' B' X' T'; (try dsimp only); (try k_lift B'); (try k_fold))
  k_steps
  with_unfolding_all refine iter_listUnr (vs := [_]) (by rfl) (by k_asm) (by k_asm) (by k_mem) (by rfl) (by rfl) ?_
  intro I9 l9
  k_steps
  refine useN (by k_asm) (by k_asm) (by k_asm) (by k_asm) (by k_asm) (by first | exact rfl | assumption) (is_kind_ok rd d l nm sh i n t1 t2 t3 t4 t5 vs (by k_mem) (by k_mem) (by k_mem) _ _ _ _ i o _ (by omega) (by assumption) (by assumption) (hp.mono (by first | exact sub_self | exact sub_more sub_self | exact sub_more (sub_more sub_self) | exact sub_more (sub_more (sub_more sub_self)))) hb) (by ktr_room) (by ktr_units) ?_
  intro t9 h9 tk9 F9 N9
  (try dsimp only)
  (try k_fold)
  k_steps
  all_goals exact ret _ led _ _ (by k_asm) (by first | k_asm | exact news_sub (by k_asm) (by first | exact sub_self | exact sub_more sub_self | exact sub_more (sub_more sub_self) | exact sub_more (sub_more (sub_more sub_self)))) (backB' (by first | rfl | assumption | simp_all))
theorem is_word_no_ALL (rd d l nm sh : Addr) (i n : Nat) (t1 t2 t3 t4 t5 : Tok) (vs : List Value) (h1 : (rd, instObj 701 d) ∈ led) (h2 : (d, rdObj w l nm sh i t1 t2 t3 t4 t5) ∈ led) (h3 : (l, W.listOf vs.toArray n) ∈ led) (hm : i ≤ 1000) (hz : vs.length ≤ 1000) (o : Option (Str × Str)) (hp : Pk w led vs i o) (t : Tok) (b d2 at2 : Addr) (k wd : Str) (u1 u2 u3 u4 u5 u6 : Tok) (hx : vs[i]? = some (.ref b)) (ht1 : (b, instObj 192 d2) ∈ led) (ht2 : (d2, tokObj w k wd at2 u1 u2 u3 u4 u5 u6) ∈ led) (hb : kindIs o (Str.ofString "word") = true) (hw : (wd != (⟨#[65, 76, 76]⟩ : Str)) = true) : Con w loose mean mg mb 591 9 [.ref rd, .str (Str.ofString "ALL") t] led (Back led fun _ => .bool false) := by
  unfold Con
  k_fill
  intro dp un gd cn cs a ccd cl outer A₀ base h₀ L m s Q E B F X N T hkf hd hu ret
  refine wpAny_call ?_
  k_dflt (refine' code_def (binds := [("self", Value.ref rd), ("words", Value.str (Str.ofString "ALL") t)]) ?k1 ?k2 ?k3 ?k4 ?k5 ?kA ?kF ?kK ?k6 ?k7 ?k8 ?k9 ?kB ?_ ?c2 ?c3 ?c4 ?c5; (case kA => exact rfl); (case kF => exact rfl); (case kK => assumption); (case k1 => k_asm); (case k2 => k_asm); (case k3 => k_asm); (case k4 => k_asm); (case k5 => k_asm); (case k6 => k_is); (case k7 => k_is); (case k8 => ktr_room); (case k9 => first | exact BindsTo.of_eq rfl | exact kp_binds (by k_in) (fun _ => by kernel_rfl)); (case c5 => decide); (case kB => exact locs rfl); (case c2 => exact rfl); (case c3 => exact rfl); (case c4 => exact rfl); k_whole; intro g' L' h' FG' F' N' B' X' T'; (try dsimp only); (try k_lift B'); (try k_fold))
  k_steps
  with_unfolding_all refine iter_listUnr (vs := [_]) (by rfl) (by k_asm) (by k_asm) (by k_mem) (by rfl) (by rfl) ?_
  intro I9 l9
  k_steps
  refine useN (by k_asm) (by k_asm) (by k_asm) (by k_asm) (by k_asm) (by first | exact rfl | assumption) (is_kind_ok rd d l nm sh i n t1 t2 t3 t4 t5 vs (by k_mem) (by k_mem) (by k_mem) _ _ _ _ i o _ (by omega) (by assumption) (by assumption) (hp.mono (by first | exact sub_self | exact sub_more sub_self | exact sub_more (sub_more sub_self) | exact sub_more (sub_more (sub_more sub_self)))) hb) (by ktr_room) (by ktr_units) ?_
  intro t9 h9 tk9 F9 N9
  (try dsimp only)
  (try k_fold)
  k_steps
  refine useN (by k_asm) (by k_asm) (by k_asm) (by k_asm) (by k_asm) (by first | exact rfl | assumption) (peek_v rd d l nm sh i n t1 t2 t3 t4 t5 vs (by k_mem) (by k_mem) (by k_mem) _ _ i (.ref b) (by omega) (by assumption) (by assumption) (by assumption)) (by ktr_room) (by ktr_units) ?_
  intro t9 h9 tk9 F9 N9
  (try dsimp only)
  (try k_fold)
  k_steps
  all_goals exact ret _ led _ _ (by k_asm) (by first | k_asm | exact news_sub (by k_asm) (by first | exact sub_self | exact sub_more sub_self | exact sub_more (sub_more sub_self) | exact sub_more (sub_more (sub_more sub_self)))) (backB' (by first | rfl | assumption | simp_all))
theorem skip_no_OF (rd d l nm sh : Addr) (i n : Nat) (t1 t2 t3 t4 t5 : Tok) (vs : List Value) (h1 : (rd, instObj 701 d) ∈ led) (h2 : (d, rdObj w l nm sh i t1 t2 t3 t4 t5) ∈ led) (h3 : (l, W.listOf vs.toArray n) ∈ led) (hm : i ≤ 1000) (hz : vs.length ≤ 1000) (o : Option (Str × Str)) (hp : Pk w led vs i o) (t : Tok) (hb : kindIs o (Str.ofString "word") = false) : Con w loose mean mg mb 598 11 [.ref rd, .str (Str.ofString "OF") t] led (Back led fun _ => .bool false) := by
  unfold Con
  k_fill
  intro dp un gd cn cs a ccd cl outer A₀ base h₀ L m s Q E B F X N T hkf hd hu ret
  refine wpAny_call ?_
  k_dflt (refine' code_def (binds := [("self", Value.ref rd), ("words", Value.str (Str.ofString "OF") t)]) ?k1 ?k2 ?k3 ?k4 ?k5 ?kA ?kF ?kK ?k6 ?k7 ?k8 ?k9 ?kB ?_ ?c2 ?c3 ?c4 ?c5; (case kA => exact rfl); (case kF => exact rfl); (case kK => assumption); (case k1 => k_asm); (case k2 => k_asm); (case k3 => k_asm); (case k4 => k_asm); (case k5 => k_asm); (case k6 => k_is); (case k7 => k_is); (case k8 => ktr_room); (case k9 => first | exact BindsTo.of_eq rfl | exact kp_binds (by k_in) (fun _ => by kernel_rfl)); (case c5 => decide); (case kB => exact locs rfl); (case c2 => exact rfl); (case c3 => exact rfl); (case c4 => exact rfl); k_whole; intro g' L' h' FG' F' N' B' X' T'; (try dsimp only); (try k_lift B'); (try k_fold))
  k_steps
  refine useN (by k_asm) (by k_asm) (by k_asm) (by k_asm) (by k_asm) (by first | exact rfl | assumption) (is_word_no_OF rd d l nm sh i n t1 t2 t3 t4 t5 vs (by k_mem) (by k_mem) (by k_mem) (by assumption) (by assumption) o hp _ hb) (by ktr_room) (by ktr_units) ?_
  intro t9 h9 tk9 F9 N9
  (try dsimp only)
  (try k_fold)
  k_steps
  all_goals exact ret _ led _ _ (by k_asm) (by first | k_asm | exact news_sub (by k_asm) (by first | exact sub_self | exact sub_more sub_self | exact sub_more (sub_more sub_self) | exact sub_more (sub_more (sub_more sub_self)))) (backB' (by first | rfl | assumption | simp_all))
theorem skip_no_IN (rd d l nm sh : Addr) (i n : Nat) (t1 t2 t3 t4 t5 : Tok) (vs : List Value) (h1 : (rd, instObj 701 d) ∈ led) (h2 : (d, rdObj w l nm sh i t1 t2 t3 t4 t5) ∈ led) (h3 : (l, W.listOf vs.toArray n) ∈ led) (hm : i ≤ 1000) (hz : vs.length ≤ 1000) (o : Option (Str × Str)) (hp : Pk w led vs i o) (t : Tok) (hb : kindIs o (Str.ofString "word") = false) : Con w loose mean mg mb 598 11 [.ref rd, .str (Str.ofString "IN") t] led (Back led fun _ => .bool false) := by
  unfold Con
  k_fill
  intro dp un gd cn cs a ccd cl outer A₀ base h₀ L m s Q E B F X N T hkf hd hu ret
  refine wpAny_call ?_
  k_dflt (refine' code_def (binds := [("self", Value.ref rd), ("words", Value.str (Str.ofString "IN") t)]) ?k1 ?k2 ?k3 ?k4 ?k5 ?kA ?kF ?kK ?k6 ?k7 ?k8 ?k9 ?kB ?_ ?c2 ?c3 ?c4 ?c5; (case kA => exact rfl); (case kF => exact rfl); (case kK => assumption); (case k1 => k_asm); (case k2 => k_asm); (case k3 => k_asm); (case k4 => k_asm); (case k5 => k_asm); (case k6 => k_is); (case k7 => k_is); (case k8 => ktr_room); (case k9 => first | exact BindsTo.of_eq rfl | exact kp_binds (by k_in) (fun _ => by kernel_rfl)); (case c5 => decide); (case kB => exact locs rfl); (case c2 => exact rfl); (case c3 => exact rfl); (case c4 => exact rfl); k_whole; intro g' L' h' FG' F' N' B' X' T'; (try dsimp only); (try k_lift B'); (try k_fold))
  k_steps
  refine useN (by k_asm) (by k_asm) (by k_asm) (by k_asm) (by k_asm) (by first | exact rfl | assumption) (is_word_no_IN rd d l nm sh i n t1 t2 t3 t4 t5 vs (by k_mem) (by k_mem) (by k_mem) (by assumption) (by assumption) o hp _ hb) (by ktr_room) (by ktr_units) ?_
  intro t9 h9 tk9 F9 N9
  (try dsimp only)
  (try k_fold)
  k_steps
  all_goals exact ret _ led _ _ (by k_asm) (by first | k_asm | exact news_sub (by k_asm) (by first | exact sub_self | exact sub_more sub_self | exact sub_more (sub_more sub_self) | exact sub_more (sub_more (sub_more sub_self)))) (backB' (by first | rfl | assumption | simp_all))
theorem skip_no_ALL (rd d l nm sh : Addr) (i n : Nat) (t1 t2 t3 t4 t5 : Tok) (vs : List Value) (h1 : (rd, instObj 701 d) ∈ led) (h2 : (d, rdObj w l nm sh i t1 t2 t3 t4 t5) ∈ led) (h3 : (l, W.listOf vs.toArray n) ∈ led) (hm : i ≤ 1000) (hz : vs.length ≤ 1000) (o : Option (Str × Str)) (hp : Pk w led vs i o) (t : Tok) (b d2 at2 : Addr) (k wd : Str) (u1 u2 u3 u4 u5 u6 : Tok) (hx : vs[i]? = some (.ref b)) (ht1 : (b, instObj 192 d2) ∈ led) (ht2 : (d2, tokObj w k wd at2 u1 u2 u3 u4 u5 u6) ∈ led) (hb : kindIs o (Str.ofString "word") = true) (hw : (wd != (⟨#[65, 76, 76]⟩ : Str)) = true) : Con w loose mean mg mb 598 11 [.ref rd, .str (Str.ofString "ALL") t] led (Back led fun _ => .bool false) := by
  unfold Con
  k_fill
  intro dp un gd cn cs a ccd cl outer A₀ base h₀ L m s Q E B F X N T hkf hd hu ret
  refine wpAny_call ?_
  k_dflt (refine' code_def (binds := [("self", Value.ref rd), ("words", Value.str (Str.ofString "ALL") t)]) ?k1 ?k2 ?k3 ?k4 ?k5 ?kA ?kF ?kK ?k6 ?k7 ?k8 ?k9 ?kB ?_ ?c2 ?c3 ?c4 ?c5; (case kA => exact rfl); (case kF => exact rfl); (case kK => assumption); (case k1 => k_asm); (case k2 => k_asm); (case k3 => k_asm); (case k4 => k_asm); (case k5 => k_asm); (case k6 => k_is); (case k7 => k_is); (case k8 => ktr_room); (case k9 => first | exact BindsTo.of_eq rfl | exact kp_binds (by k_in) (fun _ => by kernel_rfl)); (case c5 => decide); (case kB => exact locs rfl); (case c2 => exact rfl); (case c3 => exact rfl); (case c4 => exact rfl); k_whole; intro g' L' h' FG' F' N' B' X' T'; (try dsimp only); (try k_lift B'); (try k_fold))
  k_steps
  refine useN (by k_asm) (by k_asm) (by k_asm) (by k_asm) (by k_asm) (by first | exact rfl | assumption) (is_word_no_ALL rd d l nm sh i n t1 t2 t3 t4 t5 vs (by k_mem) (by k_mem) (by k_mem) (by assumption) (by assumption) o hp _ b d2 at2 k wd u1 u2 u3 u4 u5 u6 hx (by k_mem) (by k_mem) hb hw) (by ktr_room) (by ktr_units) ?_
  intro t9 h9 tk9 F9 N9
  (try dsimp only)
  (try k_fold)
  k_steps
  all_goals exact ret _ led _ _ (by k_asm) (by first | k_asm | exact news_sub (by k_asm) (by first | exact sub_self | exact sub_more sub_self | exact sub_more (sub_more sub_self) | exact sub_more (sub_more (sub_more sub_self)))) (backB' (by first | rfl | assumption | simp_all))
end
end
theorem flush_30 : True := by
  w_top off
  first | walk1 | trivial
section
open PySem PySem.W PyProof.Rows PySem.Calls
set_option Elab.async false
set_option maxRecDepth 100000
set_option maxHeartbeats 0
section
variable {w : World} {loose : List Str} {mean : ExcName → Option Value} {mg mb : Str → Option Value} {led : Led}
def noSubL (sub : List Nat) : List Nat → Bool
  | [] => !(sub == [])
  | c :: r => !((c :: r).take sub.length == sub) && noSubL sub r
theorem noSubL_at {sub : List Nat} : ∀ {l : List Nat}, noSubL sub l = true → ∀ i, i + sub.length ≤ l.length → (l.drop i).take sub.length ≠ sub
  | [], h, i, hi => by
    intro e
    have : sub = [] := List.eq_nil_of_length_eq_zero (by have : ([] : List Nat).length = 0 := rfl; omega)
    subst this
    simp [noSubL] at h
  | c :: r, h, 0, _ => by
    simp only [noSubL, Bool.and_eq_true] at h
    intro e
    rw [List.drop_zero] at e
    have h1 := h.1
    rw [e] at h1
    simp at h1
  | c :: r, h, i + 1, hi => by
    simp only [noSubL, Bool.and_eq_true] at h
    rw [List.drop_succ_cons]
    exact noSubL_at h.2 i (by rw [List.length_cons] at hi; omega)
theorem no_occ {x y : Str} (h : noSubL y.cps.toList x.cps.toList = true) : (Builtin.Str.occurrences x y 0 x.length 1).isEmpty = true := by
  have hx : x = S x.cps.toList := rfl
  have hy : y = S y.cps.toList := rfl
  rw [hx, hy, occ1_none _ _ (noSubL_at h)]
  rfl
theorem no_occ3 {x a b c : Str} (h : noSubL (a.cps.toList ++ b.cps.toList ++ c.cps.toList) x.cps.toList = true) : (!(Builtin.Str.occurrences x (a ++ b ++ c) 0 x.length 1).isEmpty) = false := by
  rw [no_occ (y := a ++ b ++ c) (by
    show noSubL ((a.cps ++ b.cps) ++ c.cps).toList _ = true
    simpa using h)]
  rfl
theorem is_reserved_A (t : Tok) : Con w loose mean mg mb 527 3 [.str (Str.ofString "A") t] led (Back led fun _ => .bool false) := by
  unfold Con
  k_fill
  intro dp un gd cn cs a ccd cl outer A₀ base h₀ L m s Q E B F X N T hkf hd hu ret
  refine wpAny_call ?_
  k_dflt (refine' code_def (binds := [("word", Value.str (Str.ofString "A") t)]) ?k1 ?k2 ?k3 ?k4 ?k5 ?kA ?kF ?kK ?k6 ?k7 ?k8 ?k9 ?kB ?_ ?c2 ?c3 ?c4 ?c5; (case kA => exact rfl); (case kF => exact rfl); (case kK => assumption); (case k1 => k_asm); (case k2 => k_asm); (case k3 => k_asm); (case k4 => k_asm); (case k5 => k_asm); (case k6 => k_is); (case k7 => k_is); (case k8 => ktr_room); (case k9 => first | exact BindsTo.of_eq rfl | exact kp_binds (by k_in) (fun _ => by kernel_rfl)); (case c5 => decide); (case kB => exact locs rfl); (case c2 => exact rfl); (case c3 => exact rfl); (case c4 => exact rfl); k_whole; intro g' L' h' FG' F' N' B' X' T'; (try dsimp only); (try k_lift B'); (try k_fold))
  k_steps
  all_goals exact ret _ _ _ _ (by k_asm) (by k_asm) (backB' (no_occ3 (by k_qdec)))
theorem is_name_A (rd d l nm sh : Addr) (i n : Nat) (t1 t2 t3 t4 t5 : Tok) (vs : List Value) (h1 : (rd, instObj 701 d) ∈ led) (h2 : (d, rdObj w l nm sh i t1 t2 t3 t4 t5) ∈ led) (h3 : (l, W.listOf vs.toArray n) ∈ led) (hm : i ≤ 1000) (hz : vs.length ≤ 1000) (o : Option (Str × Str)) (hp : Pk w led vs i o) (b d2 at2 : Addr) (k : Str) (u1 u2 u3 u4 u5 u6 : Tok) (hx : vs[i]? = some (.ref b)) (ht1 : (b, instObj 192 d2) ∈ led) (ht2 : (d2, tokObj w k (Str.ofString "A") at2 u1 u2 u3 u4 u5 u6) ∈ led) (hb : kindIs o (Str.ofString "word") = true) : Con w loose mean mg mb 627 8 [.ref rd] led (Back led fun _ => .bool true) := by
  unfold Con
  k_fill
  intro dp un gd cn cs a ccd cl outer A₀ base h₀ L m s Q E B F X N T hkf hd hu ret
  refine wpAny_call ?_
  k_dflt (refine' code_def (binds := [("self", Value.ref rd), ("ahead", Value.int 0 1076)]) ?k1 ?k2 ?k3 ?k4 ?k5 ?kA ?kF ?kK ?k6 ?k7 ?k8 ?k9 ?kB ?_ ?c2 ?c3 ?c4 ?c5; (case kA => exact rfl); (case kF => exact rfl); (case kK => assumption); (case k1 => k_asm); (case k2 => k_asm); (case k3 => k_asm); (case k4 => k_asm); (case k5 => k_asm); (case k6 => k_is); (case k7 => k_is); (case k8 => ktr_room); (case k9 => first | exact BindsTo.of_eq rfl | exact kp_binds (by k_in) (fun _ => by kernel_rfl)); (case c5 => decide); (case kB => exact locs rfl); (case c2 => exact rfl); (case c3 => exact rfl); (case c4 => exact rfl); k_whole; intro g' L' h' FG' F' N' B' X' T'; (try dsimp only); (try k_lift B'); (try k_fold))
  k_steps
  refine useN (by k_asm) (by k_asm) (by k_asm) (by k_asm) (by k_asm) (by first | exact rfl | assumption) (is_kind_ok rd d l nm sh i n t1 t2 t3 t4 t5 vs (by k_mem) (by k_mem) (by k_mem) _ _ _ _ i o _ (by omega) (by assumption) (by assumption) hp hb) (by ktr_room) (by ktr_units) ?_
  intro t9 h9 tk9 F9 N9
  (try dsimp only)
  (try k_fold)
  k_steps
  refine useN (by k_asm) (by k_asm) (by k_asm) (by k_asm) (by k_asm) (by first | exact rfl | assumption) (peek_v rd d l nm sh i n t1 t2 t3 t4 t5 vs (by k_mem) (by k_mem) (by k_mem) _ _ i (.ref b) (by omega) (by assumption) (by assumption) (by assumption)) (by ktr_room) (by ktr_units) ?_
  intro t9 h9 tk9 F9 N9
  (try dsimp only)
  (try k_fold)
  k_steps
  refine useN (by k_asm) (by k_asm) (by k_asm) (by k_asm) (by k_asm) (by first | exact rfl | assumption) (is_reserved_A _) (by ktr_room) (by ktr_units) ?_
  intro t9 h9 tk9 F9 N9
  (try dsimp only)
  (try k_fold)
  k_steps
  all_goals exact ret _ _ _ _ (by k_asm) (by k_asm) (backB' (by first | rfl | assumption | simp_all))
theorem name_A (rd d l nm sh : Addr) (i n : Nat) (t1 t2 t3 t4 t5 : Tok) (vs : List Value) (h1 : (rd, instObj 701 d) ∈ led) (h3 : (l, W.listOf vs.toArray n) ∈ led) (hne : ∀ p ∈ led, p.1 ≠ d) (hm : i ≤ 1000) (hz : vs.length ≤ 1000) (o : Option (Str × Str)) (hp : Pk w led vs i o) (b d2 at2 : Addr) (k : Str) (u1 u2 u3 u4 u5 u6 : Tok) (hx : vs[i]? = some (.ref b)) (ht1 : (b, instObj 192 d2) ∈ led) (ht2 : (d2, tokObj w k (Str.ofString "A") at2 u1 u2 u3 u4 u5 u6) ∈ led) (hb : kindIs o (Str.ofString "word") = true) : Con w loose mean mg mb 634 16 [.ref rd] ((d, rdObj w l nm sh i t1 t2 t3 t4 t5) :: led) (fun r led' => (∃ t, r = .str (Str.ofString "A") t) ∧ ∃ t, led' = (d, rdObj w l nm sh (i + 1) t1 t2 t t4 t5) :: led) := by
  unfold Con
  k_fill
  intro dp un gd cn cs a ccd cl outer A₀ base h₀ L m s Q E B F X N T hkf hd hu ret
  have hp2 : Pk w ((d, rdObj w l nm sh i t1 t2 t3 t4 t5) :: led) vs i o := hp.mono fun p h => List.mem_cons_of_mem _ h
  refine wpAny_call ?_
  k_dflt (refine' code_def (binds := [("self", Value.ref rd)]) ?k1 ?k2 ?k3 ?k4 ?k5 ?kA ?kF ?kK ?k6 ?k7 ?k8 ?k9 ?kB ?_ ?c2 ?c3 ?c4 ?c5; (case kA => exact rfl); (case kF => exact rfl); (case kK => assumption); (case k1 => k_asm); (case k2 => k_asm); (case k3 => k_asm); (case k4 => k_asm); (case k5 => k_asm); (case k6 => k_is); (case k7 => k_is); (case k8 => ktr_room); (case k9 => first | exact BindsTo.of_eq rfl | exact kp_binds (by k_in) (fun _ => by kernel_rfl)); (case c5 => decide); (case kB => exact locs rfl); (case c2 => exact rfl); (case c3 => exact rfl); (case c4 => exact rfl); k_whole; intro g' L' h' FG' F' N' B' X' T'; (try dsimp only); (try k_lift B'); (try k_fold))
  k_steps
  refine useN (by k_asm) (by k_asm) (by k_asm) (by k_asm) (by k_asm) (by first | exact rfl | assumption) (is_name_A rd d l nm sh i n t1 t2 t3 t4 t5 vs (by k_mem) (by k_mem) (by k_mem) (by assumption) (by assumption) o (by assumption) b d2 at2 k u1 u2 u3 u4 u5 u6 (by assumption) (by k_mem) (by k_mem) hb) (by ktr_room) (by ktr_units) ?_
  intro t9 h9 tk9 F9 N9
  (try dsimp only)
  (try k_fold)
  k_steps
  refine useP (by k_asm) (by k_asm) (by k_asm) (by k_asm) (by k_asm) (by first | exact rfl | assumption) (take_ok rd d l nm sh i n _ _ _ _ _ vs h1 h3 hne (by assumption) (by assumption) b (by assumption)) (by ktr_room) (by ktr_units) ?_
  intro r9 led9 h9 tk9 F9 N9 p9
  obtain ⟨rfl, tt9, rfl⟩ := p9
  (try dsimp only)
  (try k_fold)
  k_steps
  all_goals exact ret _ _ _ _ (by k_asm) (by k_asm) ⟨⟨_, rfl⟩, _, rfl⟩
theorem one_of_no (rd d l nm sh : Addr) (i n : Nat) (t1 t2 t3 t4 t5 : Tok) (vs : List Value) (h1 : (rd, instObj 701 d) ∈ led) (h2 : (d, rdObj w l nm sh i t1 t2 t3 t4 t5) ∈ led) (h3 : (l, W.listOf vs.toArray n) ∈ led) (hm : i ≤ 1000) (hz : vs.length ≤ 1000) (o : Option (Str × Str)) (hp : Pk w led vs i o) (t : Tok) (hb : kindIs o (Str.ofString "word") = false) : Con w loose mean mg mb 612 14 [.ref rd, .str (Str.ofString "OF IN") t] led (Back led fun t => .str (Str.ofString "") t) := by
  unfold Con
  k_fill
  intro dp un gd cn cs a ccd cl outer A₀ base h₀ L m s Q E B F X N T hkf hd hu ret
  refine wpAny_call ?_
  k_dflt (refine' code_def (binds := [("self", Value.ref rd), ("words", Value.str (Str.ofString "OF IN") t)]) ?k1 ?k2 ?k3 ?k4 ?k5 ?kA ?kF ?kK ?k6 ?k7 ?k8 ?k9 ?kB ?_ ?c2 ?c3 ?c4 ?c5; (case kA => exact rfl); (case kF => exact rfl); (case kK => assumption); (case k1 => k_asm); (case k2 => k_asm); (case k3 => k_asm); (case k4 => k_asm); (case k5 => k_asm); (case k6 => k_is); (case k7 => k_is); (case k8 => ktr_room); (case k9 => first | exact BindsTo.of_eq rfl | exact kp_binds (by k_in) (fun _ => by kernel_rfl)); (case c5 => decide); (case kB => exact locs rfl); (case c2 => exact rfl); (case c3 => exact rfl); (case c4 => exact rfl); k_whole; intro g' L' h' FG' F' N' B' X' T'; (try dsimp only); (try k_lift B'); (try k_fold))
  k_steps
  with_unfolding_all refine iter_listUnr (vs := [_, _]) (by rfl) (by k_asm) (by k_asm) (by k_mem) (by rfl) (by rfl) ?_
  intro I9 l9
  k_steps
  refine useN (by k_asm) (by k_asm) (by k_asm) (by k_asm) (by k_asm) (by first | exact rfl | assumption) (skip_no_OF rd d l nm sh i n t1 t2 t3 t4 t5 vs (by k_mem) (by k_mem) (by k_mem) (by assumption) (by assumption) o (hp.mono (by first | exact sub_self | exact sub_more sub_self | exact sub_more (sub_more sub_self) | exact sub_more (sub_more (sub_more sub_self)))) _ hb) (by ktr_room) (by ktr_units) ?_
  intro t9 h9 tk9 F9 N9
  (try dsimp only)
  (try k_fold)
  k_steps
  refine UnrEnd.intro (by k_asm) (by k_asm) _ (fun p hp => hp) (fun p hp => Nat.ne_of_lt (l9 p hp)) ⟨by k_mem, ?_⟩
  k_steps
  refine useN (by k_asm) (by k_asm) (by k_asm) (by k_asm) (by k_asm) (by first | exact rfl | assumption) (skip_no_IN rd d l nm sh i n t1 t2 t3 t4 t5 vs (by k_mem) (by k_mem) (by k_mem) (by assumption) (by assumption) o (hp.mono (by first | exact sub_self | exact sub_more sub_self | exact sub_more (sub_more sub_self) | exact sub_more (sub_more (sub_more sub_self)))) _ hb) (by ktr_room) (by ktr_units) ?_
  intro t9 h9 tk9 F9 N9
  (try dsimp only)
  (try k_fold)
  k_steps
  refine UnrEnd.intro (by k_asm) (by k_asm) _ (fun p hp => hp) (fun p hp => Nat.ne_of_lt (l9 p hp)) ⟨by k_mem, ?_⟩
  k_steps
  all_goals exact ret _ led _ _ (by k_asm) (by first | k_asm | exact news_sub (by k_asm) (by first | exact sub_self | exact sub_more sub_self | exact sub_more (sub_more sub_self) | exact sub_more (sub_more (sub_more sub_self)))) (backS' (by decide +kernel))
end
end
theorem flush_31 : True := by
  w_top off
  first | walk1 | trivial
section
open PySem PySem.W PyProof.Rows PySem.Calls
set_option Elab.async false
set_option maxRecDepth 100000
set_option maxHeartbeats 0
section
variable {w : World} {loose : List Str} {mean : ExcName → Option Value} {mg mb : Str → Option Value} {led : Led}
def Fx (d a : Addr) : Prop := a ≠ d ∧ a ≠ 480
def TabOk (ps : Array Value) : Prop := ps = #[] ∨ ∃ c, ps = #[rawInt 372, rawInt 36, .ref c]
def TabAt (led : Led) : Prop := ∃ ps, TabOk ps ∧ (480, tabObj ps) ∈ led
structure RB (w : World) (bl : Led) (rd d l n : Nat) (vs : List Value) (ts : List (Str × Str)) : Prop where
  inst : (rd, instObj 701 d) ∈ bl
  list : (l, W.listOf vs.toArray n) ∈ bl
  off : ∀ p ∈ bl, Fx d p.1
  dt : d ≠ 480
  size : vs.length ≤ 900
  toks : ∀ j, Pk w bl vs j ts[j]?
structure St (w : World) (bl led : Led) (d l nm sh : Addr) (i : Nat) : Prop where
  keep : ∀ p ∈ bl, p ∈ led
  obj : ∃ t1 t2 t3 t4 t5, (d, rdObj w l nm sh i t1 t2 t3 t4 t5) ∈ led
  tab : TabAt led
theorem St.more {w : World} {bl led led' : Led} {d l nm sh : Addr} {i : Nat} (h : St w bl led d l nm sh i) (hs : ∀ p ∈ led, p ∈ led') : St w bl led' d l nm sh i :=
  ⟨fun p hp => hs p (h.keep p hp), let ⟨t1, t2, t3, t4, t5, m⟩ := h.obj; ⟨t1, t2, t3, t4, t5, hs _ m⟩, let ⟨ps, o, m⟩ := h.tab; ⟨ps, o, hs _ m⟩⟩
theorem RB.pk {w : World} {bl led : Led} {rd d l n : Nat} {vs : List Value} {ts : List (Str × Str)} {nm sh : Addr} {i : Nat} (R : RB w bl rd d l n vs ts) (h : St w bl led d l nm sh i) (j : Nat) (o : Option (Str × Str)) (e : ts[j]? = o) : Pk w led vs j o := by
  subst e
  exact (R.toks j).mono h.keep
def RCon (w : World) (loose : List Str) (mean : ExcName → Option Value) (mg mb : Str → Option Value) (bl : Led) (d l nm sh : Addr) (f : Addr) (dep : Nat) (args : List Value) (i j : Nat) (V : Led → Value → Prop) : Prop :=
  ∀ led, St w bl led d l nm sh i → Con w loose mean mg mb f dep args led (fun r led' => St w bl led' d l nm sh j ∧ (∀ p ∈ led, Fx d p.1 → p ∈ led') ∧ V led' r)
def Stable (d : Addr) (V : Led → Value → Prop) : Prop := ∀ led led' v, (∀ p ∈ led, Fx d p.1 → p ∈ led') → V led v → V led' v
theorem con_split {w : World} {loose : List Str} {mean : ExcName → Option Value} {mg mb : Str → Option Value} {led : Led} {f dep : Nat} {args : List Value} {d : Addr} {o : Obj} {post : Value → Led → Prop} (hd : (d, o) ∈ led)
    (C : Con w loose mean mg mb f dep args ((d, o) :: led.filter (fun p => p.1 != d)) post) : Con w loose mean mg mb f dep args led post :=
  fun dp un gd cn cs a ccd cl outer A₀ base h₀ L m s Q E B F X N T hkf hdp hu ret => C dp un gd cn cs a ccd cl outer A₀ base h₀ L m s Q E B F X (fun p hp => by
    rcases List.mem_cons.mp hp with rfl | hp
    · exact N _ hd
    · exact N _ (List.mem_filter.mp hp).1) T hkf hdp hu ret
theorem mem_rest {led : Led} {d : Addr} {p : Addr × Obj} (h : p ∈ led) (hne : p.1 ≠ d) : p ∈ led.filter (fun p => p.1 != d) := List.mem_filter.mpr ⟨h, by simpa using hne⟩
theorem rest_ne {led : Led} {d : Addr} : ∀ p ∈ led.filter (fun p => p.1 != d), p.1 ≠ d := fun p hp => by simpa using (List.mem_filter.mp hp).2
theorem con_post {w : World} {loose : List Str} {mean : ExcName → Option Value} {mg mb : Str → Option Value} {led : Led} {f dep : Nat} {args : List Value} {post post' : Value → Led → Prop} (C : Con w loose mean mg mb f dep args led post) (h : ∀ r l, post r l → post' r l) : Con w loose mean mg mb f dep args led post' :=
  fun dp un gd cn cs a ccd cl outer A₀ base h₀ L m s Q E B F X N T hkf hdp hu ret => C dp un gd cn cs a ccd cl outer A₀ base h₀ L m s Q E B F X N T hkf hdp hu fun r l' h' tk' F' N' p => ret r l' h' tk' F' N' (h r l' p)
def TokV (w : World) (d : Addr) (kw : Str × Str) (led : Led) (v : Value) : Prop := ∃ b d2 at2 u1 u2 u3 u4 u5 u6, v = .ref b ∧ (b, instObj 192 d2) ∈ led ∧ (d2, tokObj w kw.1 kw.2 at2 u1 u2 u3 u4 u5 u6) ∈ led ∧ Fx d b ∧ Fx d d2
section
variable {bl : Led} {rd d l n : Nat} {vs : List Value} {ts : List (Str × Str)} {nm sh : Addr} {i : Nat}
theorem TokV.elim {w : World} {d : Addr} {kw : Str × Str} {led : Led} {v : Value} {P : Prop} (h : TokV w d kw led v) (k : ∀ b d2 at2 u1 u2 u3 u4 u5 u6, v = .ref b → (b, instObj 192 d2) ∈ led → (d2, tokObj w kw.1 kw.2 at2 u1 u2 u3 u4 u5 u6) ∈ led → Fx d b → Fx d d2 → P) : P :=
  let ⟨b, d2, at2, u1, u2, u3, u4, u5, u6, e, m1, m2, n1, n2⟩ := h; k b d2 at2 u1 u2 u3 u4 u5 u6 e m1 m2 n1 n2
theorem Pk.elim {w : World} {led : Led} {vs : List Value} {j : Nat} {k1 k2 : Str} {P : Prop} (h : Pk w led vs j (some (k1, k2))) (k : ∀ v b d2 at2 u1 u2 u3 u4 u5 u6, vs[j]? = some v → v = .ref b → (b, instObj 192 d2) ∈ led → (d2, tokObj w k1 k2 at2 u1 u2 u3 u4 u5 u6) ∈ led → P) : P :=
  let ⟨v, hx, b, d2, at2, u1, u2, u3, u4, u5, u6, e, m1, m2⟩ := h; k v b d2 at2 u1 u2 u3 u4 u5 u6 hx e m1 m2
theorem useR {w : World} {loose : List Str} {mean : ExcName → Option Value} {mg mb : Str → Option Value} {f : Addr} {dep : Nat} {args : List Value} {led : Led} {V : Led → Value → Prop}
    {dp un : Nat} {gd : Option (List Code)} {cn : Str} {cs : Scope} {a : Addr} {ccd : Value} {cl : List (Str × Addr)} {outer : List Env} {A₀ : Around} {base h₀ : Heap} {L : Addr} {m : Str → Option Value} {s : Shared} {Q E : Value → Shared → Prop} {j : Nat}
    (R : RB w bl rd d l n vs ts) (N : News h₀ L s.heap led) (F : Fr h₀ L s.heap m) (B : Below A₀ base outer h₀) (X : (hk.heap_1 w.params).In h₀) (T : Top topProg loose mean mg mb h₀) (hkf : cs.kind = .function)
    (C : Con w loose mean mg mb f dep args led (fun r led' => St w bl led' d l nm sh j ∧ (∀ p ∈ led, Fx d p.1 → p ∈ led') ∧ V led' r)) (hd : dp + dep < recursionLimit) (hu : un + 8 * dep < cLine)
    (ret : ∀ r led' h' tk', Fr h₀ L h' m → News h₀ L h' led' → St w bl led' d l nm sh j → (∀ p ∈ led, Fx d p.1 → p ∈ led') → V led' r → ∀ t1 t2 t3 t4 t5, (d, rdObj w l nm sh j t1 t2 t3 t4 t5) ∈ led' → (rd, instObj 701 d) ∈ led' → (l, W.listOf vs.toArray n) ∈ led' → Q r { s with heap := h', toks := tk' }) :
    wpAny (model row0.prog w) (ktrTop dp un gd cn cs L a ccd cl outer) (call (.ref f) args) Q E s :=
  use C B F X N T hkf hd hu fun r led' h' tk' F' N' p => let ⟨t1, t2, t3, t4, t5, hO⟩ := p.1.obj; ret r led' h' tk' F' N' p.1 p.2.1 p.2.2 t1 t2 t3 t4 t5 hO (p.1.keep _ R.inst) (p.1.keep _ R.list)
theorem pk_some (R : RB w bl rd d l n vs ts) {j : Nat} {kw : Str × Str} (e : ts[j]? = some kw) : ∃ v, vs[j]? = some v ∧ TokV w d kw bl v := by
  have := R.toks j
  rw [e] at this
  obtain ⟨v, hx, b, d2, at2, u1, u2, u3, u4, u5, u6, rfl, m1, m2⟩ := this
  exact ⟨_, hx, b, d2, at2, u1, u2, u3, u4, u5, u6, rfl, m1, m2, R.off _ m1, R.off _ m2⟩
theorem TokV.more {w : World} {d : Addr} {kw : Str × Str} {led led' : Led} {v : Value} (h : TokV w d kw led v) (hs : ∀ p ∈ led, Fx d p.1 → p ∈ led') : TokV w d kw led' v := by
  obtain ⟨b, d2, at2, u1, u2, u3, u4, u5, u6, e, m1, m2, n1, n2⟩ := h
  exact ⟨b, d2, at2, u1, u2, u3, u4, u5, u6, e, hs _ m1 n1, hs _ m2 n2, n1, n2⟩
theorem lt_len (R : RB w bl rd d l n vs ts) {j : Nat} {kw : Str × Str} (e : ts[j]? = some kw) : j < vs.length := by
  obtain ⟨v, hx, _⟩ := pk_some R e
  exact lt_of_get hx
theorem moved {led : Led} {t1 t2 t3 t4 t5 : Tok} {j : Nat} (R : RB w bl rd d l n vs ts) (h : St w bl led d l nm sh i) : St w bl ((d, rdObj w l nm sh j t1 t2 t3 t4 t5) :: led.filter (fun p => p.1 != d)) d l nm sh j ∧ ∀ p ∈ led, Fx d p.1 → p ∈ (d, rdObj w l nm sh j t1 t2 t3 t4 t5) :: led.filter (fun p => p.1 != d) :=
  ⟨⟨fun p hp => .tail _ (mem_rest (h.keep p hp) (R.off p hp).1), ⟨t1, t2, t3, t4, t5, .head _⟩, let ⟨ps, o, m⟩ := h.tab; ⟨ps, o, .tail _ (mem_rest m (Ne.symm R.dt))⟩⟩, fun p hp hne => .tail _ (mem_rest hp hne.1)⟩
theorem take_R (R : RB w bl rd d l n vs ts) {kw : Str × Str} (e : ts[i]? = some kw) : RCon w loose mean mg mb bl d l nm sh 576 12 [.ref rd] i (i + 1) (TokV w d kw) := by
  intro led hS
  obtain ⟨t1, t2, t3, t4, t5, hO⟩ := hS.obj
  obtain ⟨v, hx, hV⟩ := pk_some R e
  have hV' := hV.more (led' := led) fun p hp _ => hS.keep p hp
  obtain ⟨b, d2, at2, u1, u2, u3, u4, u5, u6, rfl, m1, m2, n1, n2⟩ := hV
  have hlt := lt_of_get hx
  have hz := R.size
  refine con_split hO (con_post (take_ok rd d l nm sh i n t1 t2 t3 t4 t5 vs (mem_rest (hS.keep _ R.inst) (R.off _ R.inst).1) (mem_rest (hS.keep _ R.list) (R.off _ R.list).1) rest_ne (by omega) (by omega) b hx) ?_)
  rintro r led' ⟨rfl, t, rfl⟩
  have M := moved (j := i + 1) (t1 := t1) (t2 := t2) (t3 := t) (t4 := t4) (t5 := t5) R hS
  exact ⟨M.1, M.2, hV'.more M.2⟩
theorem name_R (R : RB w bl rd d l n vs ts) (e : ts[i]? = some (Str.ofString "word", Str.ofString "A")) : RCon w loose mean mg mb bl d l nm sh 634 16 [.ref rd] i (i + 1) (fun _ r => ∃ t, r = .str (Str.ofString "A") t) := by
  intro led hS
  obtain ⟨t1, t2, t3, t4, t5, hO⟩ := hS.obj
  obtain ⟨v, hx, hV⟩ := pk_some R e
  obtain ⟨b, d2, at2, u1, u2, u3, u4, u5, u6, rfl, m1, m2, n1, n2⟩ := hV
  have hlt := lt_of_get hx
  have hz := R.size
  have hk : Pk w (led.filter (fun p => p.1 != d)) vs i (some (Str.ofString "word", Str.ofString "A")) := ⟨_, hx, b, d2, at2, u1, u2, u3, u4, u5, u6, rfl, mem_rest (hS.keep _ m1) n1.1, mem_rest (hS.keep _ m2) n2.1⟩
  refine con_split hO (con_post (name_A rd d l nm sh i n t1 t2 t3 t4 t5 vs (mem_rest (hS.keep _ R.inst) (R.off _ R.inst).1) (mem_rest (hS.keep _ R.list) (R.off _ R.list).1) rest_ne (by omega) (by omega) _ hk b d2 at2 _ u1 u2 u3 u4 u5 u6 hx (mem_rest (hS.keep _ m1) n1.1) (mem_rest (hS.keep _ m2) n2.1) (by decide +kernel)) ?_)
  rintro r led' ⟨ht, t, rfl⟩
  have M := moved (j := i + 1) (t1 := t1) (t2 := t2) (t3 := t) (t4 := t4) (t5 := t5) R hS
  exact ⟨M.1, M.2, ht⟩
theorem skip_sign_R (R : RB w bl rd d l n vs ts) {o : Option (Str × Str)} (e : ts[i]? = o) (sg : Str) (t : Tok) (hb : signIs o sg = true) : RCon w loose mean mg mb bl d l nm sh 656 12 [.ref rd, .str sg t] i (i + 1) (fun _ r => r = .bool true) := by
  intro led hS
  obtain ⟨t1, t2, t3, t4, t5, hO⟩ := hS.obj
  have hz := R.size
  cases o with
  | none => cases hb
  | some kw =>
    obtain ⟨v, hx, hV⟩ := pk_some R e
    obtain ⟨b, d2, at2, u1, u2, u3, u4, u5, u6, rfl, m1, m2, n1, n2⟩ := hV
    have hlt := lt_of_get hx
    have hk : Pk w (led.filter (fun p => p.1 != d)) vs i (some kw) := ⟨_, hx, b, d2, at2, u1, u2, u3, u4, u5, u6, rfl, mem_rest (hS.keep _ m1) n1.1, mem_rest (hS.keep _ m2) n2.1⟩
    refine con_split hO (con_post (skip_sign_yes rd d l nm sh i n t1 t2 t3 t4 t5 vs (mem_rest (hS.keep _ R.inst) (R.off _ R.inst).1) (mem_rest (hS.keep _ R.list) (R.off _ R.list).1) rest_ne (by omega) (by omega) _ hk sg t hb) ?_)
    rintro r led' ⟨rfl, t, rfl⟩
    have M := moved (j := i + 1) (t1 := t1) (t2 := t2) (t3 := t) (t4 := t4) (t5 := t5) R hS
    exact ⟨M.1, M.2, rfl⟩
end
end
section
variable {w : World} {loose : List Str} {mean : ExcName → Option Value} {mg mb : Str → Option Value} {led : Led}
theorem sign_among_none (rd d l nm sh : Addr) (i n : Nat) (t1 t2 t3 t4 t5 : Tok) (vs : List Value) (h1 : (rd, instObj 701 d) ∈ led) (h2 : (d, rdObj w l nm sh i t1 t2 t3 t4 t5) ∈ led) (h3 : (l, W.listOf vs.toArray n) ∈ led) (sg : Addr) (hlt : ¬ (i : Int) + 0 < (vs.length : Int)) (hz : vs.length ≤ 1000) : Con w loose mean mg mb 443 6 [.ref rd, .ref sg] led (Back led fun t => .str (Str.ofString "") t) := by
  unfold Con
  k_fill
  intro dp un gd cn cs a ccd cl outer A₀ base h₀ L m s Q E B F X N T hkf hd hu ret
  refine wpAny_call ?_
  k_dflt (refine' code_def (binds := [("reader", Value.ref rd), ("signs", Value.ref sg)]) ?k1 ?k2 ?k3 ?k4 ?k5 ?kA ?kF ?kK ?k6 ?k7 ?k8 ?k9 ?kB ?_ ?c2 ?c3 ?c4 ?c5; (case kA => exact rfl); (case kF => exact rfl); (case kK => assumption); (case k1 => k_asm); (case k2 => k_asm); (case k3 => k_asm); (case k4 => k_asm); (case k5 => k_asm); (case k6 => k_is); (case k7 => k_is); (case k8 => ktr_room); (case k9 => first | exact BindsTo.of_eq rfl | exact kp_binds (by k_in) (fun _ => by kernel_rfl)); (case c5 => decide); (case kB => exact locs rfl); (case c2 => exact rfl); (case c3 => exact rfl); (case c4 => exact rfl); k_whole; intro g' L' h' FG' F' N' B' X' T'; (try dsimp only); (try k_lift B'); (try k_fold))
  k_steps
  refine useN (by k_asm) (by k_asm) (by k_asm) (by k_asm) (by k_asm) (by first | exact rfl | assumption) (peek_none0 rd d l nm sh i n t1 t2 t3 t4 t5 vs (by k_mem) (by k_mem) (by k_mem) (by assumption) (by assumption)) (by ktr_room) (by ktr_units) ?_
  intro t9 h9 tk9 F9 N9
  (try dsimp only)
  (try k_fold)
  k_steps
  all_goals exact ret _ _ _ _ (by k_asm) (by k_asm) (backS' (by first | rfl | assumption))
theorem sign_among_other (rd d l nm sh : Addr) (i n : Nat) (t1 t2 t3 t4 t5 : Tok) (vs : List Value) (h1 : (rd, instObj 701 d) ∈ led) (h2 : (d, rdObj w l nm sh i t1 t2 t3 t4 t5) ∈ led) (h3 : (l, W.listOf vs.toArray n) ∈ led) (sg : Addr) (hm : i ≤ 1000) (hz : vs.length ≤ 1000) (b d2 at2 : Addr) (k wd : Str) (u1 u2 u3 u4 u5 u6 : Tok) (hx : vs[i]? = some (.ref b)) (ht1 : (b, instObj 192 d2) ∈ led) (ht2 : (d2, tokObj w k wd at2 u1 u2 u3 u4 u5 u6) ∈ led) (hk : (k != Str.ofString "sign") = true) : Con w loose mean mg mb 443 6 [.ref rd, .ref sg] led (Back led fun t => .str (Str.ofString "") t) := by
  unfold Con
  k_fill
  intro dp un gd cn cs a ccd cl outer A₀ base h₀ L m s Q E B F X N T hkf hd hu ret
  refine wpAny_call ?_
  k_dflt (refine' code_def (binds := [("reader", Value.ref rd), ("signs", Value.ref sg)]) ?k1 ?k2 ?k3 ?k4 ?k5 ?kA ?kF ?kK ?k6 ?k7 ?k8 ?k9 ?kB ?_ ?c2 ?c3 ?c4 ?c5; (case kA => exact rfl); (case kF => exact rfl); (case kK => assumption); (case k1 => k_asm); (case k2 => k_asm); (case k3 => k_asm); (case k4 => k_asm); (case k5 => k_asm); (case k6 => k_is); (case k7 => k_is); (case k8 => ktr_room); (case k9 => first | exact BindsTo.of_eq rfl | exact kp_binds (by k_in) (fun _ => by kernel_rfl)); (case c5 => decide); (case kB => exact locs rfl); (case c2 => exact rfl); (case c3 => exact rfl); (case c4 => exact rfl); k_whole; intro g' L' h' FG' F' N' B' X' T'; (try dsimp only); (try k_lift B'); (try k_fold))
  k_steps
  refine useN (by k_asm) (by k_asm) (by k_asm) (by k_asm) (by k_asm) (by first | exact rfl | assumption) (peek_v0 rd d l nm sh i n t1 t2 t3 t4 t5 vs (by k_mem) (by k_mem) (by k_mem) (.ref b) (by assumption) (by assumption) (by assumption)) (by ktr_room) (by ktr_units) ?_
  intro t9 h9 tk9 F9 N9
  (try dsimp only)
  (try k_fold)
  k_steps
  all_goals exact ret _ _ _ _ (by k_asm) (by k_asm) (backS' (by first | rfl | assumption))
theorem sign_among_in (rd d l nm sh : Addr) (i n : Nat) (t1 t2 t3 t4 t5 : Tok) (vs : List Value) (h1 : (rd, instObj 701 d) ∈ led) (h2 : (d, rdObj w l nm sh i t1 t2 t3 t4 t5) ∈ led) (h3 : (l, W.listOf vs.toArray n) ∈ led)(sg : Addr) (x y : Str) (v1 v2 : Tok) (hs : (sg, tupObj [.str x v1, .str y v2]) ∈ led) (hm : i ≤ 1000) (hz : vs.length ≤ 1000) (b d2 at2 : Addr) (k wd : Str) (u1 u2 u3 u4 u5 u6 : Tok) (hx : vs[i]? = some (.ref b)) (ht1 : (b, instObj 192 d2) ∈ led) (ht2 : (d2, tokObj w k wd at2 u1 u2 u3 u4 u5 u6) ∈ led) (hk : (k != Str.ofString "sign") = false) (hin : (([x, y] : List Str).any fun z => z == wd) = true) : Con w loose mean mg mb 443 6 [.ref rd, .ref sg] led (Back led fun t => .str wd t) := by
  unfold Con
  k_fill
  intro dp un gd cn cs a ccd cl outer A₀ base h₀ L m s Q E B F X N T hkf hd hu ret
  refine wpAny_call ?_
  k_dflt (refine' code_def (binds := [("reader", Value.ref rd), ("signs", Value.ref sg)]) ?k1 ?k2 ?k3 ?k4 ?k5 ?kA ?kF ?kK ?k6 ?k7 ?k8 ?k9 ?kB ?_ ?c2 ?c3 ?c4 ?c5; (case kA => exact rfl); (case kF => exact rfl); (case kK => assumption); (case k1 => k_asm); (case k2 => k_asm); (case k3 => k_asm); (case k4 => k_asm); (case k5 => k_asm); (case k6 => k_is); (case k7 => k_is); (case k8 => ktr_room); (case k9 => first | exact BindsTo.of_eq rfl | exact kp_binds (by k_in) (fun _ => by kernel_rfl)); (case c5 => decide); (case kB => exact locs rfl); (case c2 => exact rfl); (case c3 => exact rfl); (case c4 => exact rfl); k_whole; intro g' L' h' FG' F' N' B' X' T'; (try dsimp only); (try k_lift B'); (try k_fold))
  k_steps
  refine useN (by k_asm) (by k_asm) (by k_asm) (by k_asm) (by k_asm) (by first | exact rfl | assumption) (peek_v0 rd d l nm sh i n t1 t2 t3 t4 t5 vs (by k_mem) (by k_mem) (by k_mem) (.ref b) (by assumption) (by assumption) (by assumption)) (by ktr_room) (by ktr_units) ?_
  intro t9 h9 tk9 F9 N9
  (try dsimp only)
  (try k_fold)
  k_steps
  all_goals exact ret _ _ _ _ (by k_asm) (by k_asm) (backS' (by first | rfl | assumption))
theorem sign_among_out (rd d l nm sh : Addr) (i n : Nat) (t1 t2 t3 t4 t5 : Tok) (vs : List Value) (h1 : (rd, instObj 701 d) ∈ led) (h2 : (d, rdObj w l nm sh i t1 t2 t3 t4 t5) ∈ led) (h3 : (l, W.listOf vs.toArray n) ∈ led)(sg : Addr) (x y : Str) (v1 v2 : Tok) (hs : (sg, tupObj [.str x v1, .str y v2]) ∈ led) (hm : i ≤ 1000) (hz : vs.length ≤ 1000) (b d2 at2 : Addr) (k wd : Str) (u1 u2 u3 u4 u5 u6 : Tok) (hx : vs[i]? = some (.ref b)) (ht1 : (b, instObj 192 d2) ∈ led) (ht2 : (d2, tokObj w k wd at2 u1 u2 u3 u4 u5 u6) ∈ led) (hk : (k != Str.ofString "sign") = false) (hin : (([x, y] : List Str).any fun z => z == wd) = false) : Con w loose mean mg mb 443 6 [.ref rd, .ref sg] led (Back led fun t => .str (Str.ofString "") t) := by
  unfold Con
  k_fill
  intro dp un gd cn cs a ccd cl outer A₀ base h₀ L m s Q E B F X N T hkf hd hu ret
  refine wpAny_call ?_
  k_dflt (refine' code_def (binds := [("reader", Value.ref rd), ("signs", Value.ref sg)]) ?k1 ?k2 ?k3 ?k4 ?k5 ?kA ?kF ?kK ?k6 ?k7 ?k8 ?k9 ?kB ?_ ?c2 ?c3 ?c4 ?c5; (case kA => exact rfl); (case kF => exact rfl); (case kK => assumption); (case k1 => k_asm); (case k2 => k_asm); (case k3 => k_asm); (case k4 => k_asm); (case k5 => k_asm); (case k6 => k_is); (case k7 => k_is); (case k8 => ktr_room); (case k9 => first | exact BindsTo.of_eq rfl | exact kp_binds (by k_in) (fun _ => by kernel_rfl)); (case c5 => decide); (case kB => exact locs rfl); (case c2 => exact rfl); (case c3 => exact rfl); (case c4 => exact rfl); k_whole; intro g' L' h' FG' F' N' B' X' T'; (try dsimp only); (try k_lift B'); (try k_fold))
  k_steps
  refine useN (by k_asm) (by k_asm) (by k_asm) (by k_asm) (by k_asm) (by first | exact rfl | assumption) (peek_v0 rd d l nm sh i n t1 t2 t3 t4 t5 vs (by k_mem) (by k_mem) (by k_mem) (.ref b) (by assumption) (by assumption) (by assumption)) (by ktr_room) (by ktr_units) ?_
  intro t9 h9 tk9 F9 N9
  (try dsimp only)
  (try k_fold)
  k_steps
  all_goals exact ret _ _ _ _ (by k_asm) (by k_asm) (backS' (by first | rfl | assumption))
theorem sign_among_out1 (rd d l nm sh : Addr) (i n : Nat) (t1 t2 t3 t4 t5 : Tok) (vs : List Value) (h1 : (rd, instObj 701 d) ∈ led) (h2 : (d, rdObj w l nm sh i t1 t2 t3 t4 t5) ∈ led) (h3 : (l, W.listOf vs.toArray n) ∈ led)(sg : Addr) (x : Str) (v1 : Tok) (hs : (sg, tupObj [.str x v1]) ∈ led) (hm : i ≤ 1000) (hz : vs.length ≤ 1000) (b d2 at2 : Addr) (k wd : Str) (u1 u2 u3 u4 u5 u6 : Tok) (hx : vs[i]? = some (.ref b)) (ht1 : (b, instObj 192 d2) ∈ led) (ht2 : (d2, tokObj w k wd at2 u1 u2 u3 u4 u5 u6) ∈ led) (hk : (k != Str.ofString "sign") = false) (hin : (([x] : List Str).any fun z => z == wd) = false) : Con w loose mean mg mb 443 6 [.ref rd, .ref sg] led (Back led fun t => .str (Str.ofString "") t) := by
  unfold Con
  k_fill
  intro dp un gd cn cs a ccd cl outer A₀ base h₀ L m s Q E B F X N T hkf hd hu ret
  refine wpAny_call ?_
  k_dflt (refine' code_def (binds := [("reader", Value.ref rd), ("signs", Value.ref sg)]) ?k1 ?k2 ?k3 ?k4 ?k5 ?kA ?kF ?kK ?k6 ?k7 ?k8 ?k9 ?kB ?_ ?c2 ?c3 ?c4 ?c5; (case kA => exact rfl); (case kF => exact rfl); (case kK => assumption); (case k1 => k_asm); (case k2 => k_asm); (case k3 => k_asm); (case k4 => k_asm); (case k5 => k_asm); (case k6 => k_is); (case k7 => k_is); (case k8 => ktr_room); (case k9 => first | exact BindsTo.of_eq rfl | exact kp_binds (by k_in) (fun _ => by kernel_rfl)); (case c5 => decide); (case kB => exact locs rfl); (case c2 => exact rfl); (case c3 => exact rfl); (case c4 => exact rfl); k_whole; intro g' L' h' FG' F' N' B' X' T'; (try dsimp only); (try k_lift B'); (try k_fold))
  k_steps
  refine useN (by k_asm) (by k_asm) (by k_asm) (by k_asm) (by k_asm) (by first | exact rfl | assumption) (peek_v0 rd d l nm sh i n t1 t2 t3 t4 t5 vs (by k_mem) (by k_mem) (by k_mem) (.ref b) (by assumption) (by assumption) (by assumption)) (by ktr_room) (by ktr_units) ?_
  intro t9 h9 tk9 F9 N9
  (try dsimp only)
  (try k_fold)
  k_steps
  all_goals exact ret _ _ _ _ (by k_asm) (by k_asm) (backS' (by first | rfl | assumption))
end
end
theorem flush_32 : True := by
  w_top off
  first | walk1 | trivial
section
open PySem PySem.W PyProof.Rows PySem.Calls
local macro_rules | `(tactic| walk_at "exec While") => `(tactic| (k_here; refine wpAny_While ?_))
section
open PySem PySem.W PyProof.Rows PySem.Calls
set_option Elab.async false
set_option maxRecDepth 100000
set_option maxHeartbeats 0
section
variable {w : World} {loose : List Str} {mean : ExcName → Option Value} {mg mb : Str → Option Value} {led : Led}
section
open PySem.Calls
variable {prog : Program} {w : World} {A : Around} {E : Value → Shared → Prop} {s : Shared} {h₀ h : Heap} {L a : Addr} {m : Str → Option Value} {K : Frag} {es : Array DictEntry} {n : Nat} {x : Str} {t : Tok} {v : Value}
theorem topNotIn_K {r : Option Value} {Q : Value → Shared → Prop} (F : Fr h₀ L s.heap m) (X₀ : K.In h₀) (hl : K.lookup a = some ⟨.type "dict", none, .dict es n, #[]⟩) (hk : KeysLit w.params es.toList) (e : nsIn K a x = some r) (lo : (a == sysModules) = false)
    (h : Q (.bool (!r.isSome)) { s with toks := s.toks + 1 }) : wpAny (model prog w) A (compareOp .NotIn (.str x t) (.ref a)) Q E s :=
  wpAny_notIn_of (strKind_is prog w x t) lo (mapOf_K (prog := prog) (X₀.keeps F.keep) hl hk) (by rw [find_K hl e]; exact h)
end
def among (o : Option (Str × Str)) (gs : List Str) : Str := match o with
  | none => Str.ofString ""
  | some kw => if (kw.1 == Str.ofString "sign" && gs.any fun z => z == kw.2) = true then kw.2 else Str.ofString ""
theorem sign_among_ok2 (rd d l nm sh : Addr) (i n : Nat) (t1 t2 t3 t4 t5 : Tok) (vs : List Value) (h1 : (rd, instObj 701 d) ∈ led) (h2 : (d, rdObj w l nm sh i t1 t2 t3 t4 t5) ∈ led) (h3 : (l, W.listOf vs.toArray n) ∈ led) (sg : Addr) (x y : Str) (v1 v2 : Tok) (hs : (sg, tupObj [.str x v1, .str y v2]) ∈ led) (hz : vs.length ≤ 900) (o : Option (Str × Str)) (hp : Pk w led vs i o) (hi : i ≤ 900) (r : Str) (hb : among o [x, y] = r) : Con w loose mean mg mb 443 6 [.ref rd, .ref sg] led (Back led fun t => .str r t) := by
  subst hb
  cases o with
  | none =>
    have hp : vs.length ≤ i := hp
    exact sign_among_none rd d l nm sh i n t1 t2 t3 t4 t5 vs h1 h2 h3 sg (by omega) (by omega)
  | some kw =>
    obtain ⟨v, hx, b, d2, at2, u1, u2, u3, u4, u5, u6, rfl, m1, m2⟩ := hp
    cases hk : (kw.1 != Str.ofString "sign") with
    | true =>
      have e : (kw.1 == Str.ofString "sign") = false := by simpa [bne] using hk
      have e2 : among (some kw) [x, y] = Str.ofString "" := by unfold among; simp only [e, Bool.false_and]; rfl
      rw [e2]
      exact sign_among_other rd d l nm sh i n t1 t2 t3 t4 t5 vs h1 h2 h3 sg (by omega) (by omega) b d2 at2 kw.1 kw.2 u1 u2 u3 u4 u5 u6 hx m1 m2 hk
    | false =>
      have e : (kw.1 == Str.ofString "sign") = true := by simpa [bne] using hk
      cases hin : ([x, y] : List Str).any fun z => z == kw.2 with
      | true =>
        have e2 : among (some kw) [x, y] = kw.2 := by unfold among; simp only [e, hin, Bool.true_and]; rfl
        rw [e2]
        exact sign_among_in rd d l nm sh i n t1 t2 t3 t4 t5 vs h1 h2 h3 sg x y v1 v2 hs (by omega) (by omega) b d2 at2 kw.1 kw.2 u1 u2 u3 u4 u5 u6 hx m1 m2 hk hin
      | false =>
        have e2 : among (some kw) [x, y] = Str.ofString "" := by unfold among; simp only [e, hin, Bool.true_and]; rfl
        rw [e2]
        exact sign_among_out rd d l nm sh i n t1 t2 t3 t4 t5 vs h1 h2 h3 sg x y v1 v2 hs (by omega) (by omega) b d2 at2 kw.1 kw.2 u1 u2 u3 u4 u5 u6 hx m1 m2 hk hin
theorem sign_among_ok1 (rd d l nm sh : Addr) (i n : Nat) (t1 t2 t3 t4 t5 : Tok) (vs : List Value) (h1 : (rd, instObj 701 d) ∈ led) (h2 : (d, rdObj w l nm sh i t1 t2 t3 t4 t5) ∈ led) (h3 : (l, W.listOf vs.toArray n) ∈ led) (sg : Addr) (x : Str) (v1 : Tok) (hs : (sg, tupObj [.str x v1]) ∈ led) (hz : vs.length ≤ 900) (o : Option (Str × Str)) (hp : Pk w led vs i o) (hi : i ≤ 900) (hb : among o [x] = Str.ofString "") (hne : ∀ kw, o = some kw → ([x].any fun z => z == kw.2) = false) : Con w loose mean mg mb 443 6 [.ref rd, .ref sg] led (Back led fun t => .str (Str.ofString "") t) := by
  cases o with
  | none =>
    have hp : vs.length ≤ i := hp
    exact sign_among_none rd d l nm sh i n t1 t2 t3 t4 t5 vs h1 h2 h3 sg (by omega) (by omega)
  | some kw =>
    obtain ⟨v, hx, b, d2, at2, u1, u2, u3, u4, u5, u6, rfl, m1, m2⟩ := hp
    cases hk : (kw.1 != Str.ofString "sign") with
    | true => exact sign_among_other rd d l nm sh i n t1 t2 t3 t4 t5 vs h1 h2 h3 sg (by omega) (by omega) b d2 at2 kw.1 kw.2 u1 u2 u3 u4 u5 u6 hx m1 m2 hk
    | false => exact sign_among_out1 rd d l nm sh i n t1 t2 t3 t4 t5 vs h1 h2 h3 sg x v1 hs (by omega) (by omega) b d2 at2 kw.1 kw.2 u1 u2 u3 u4 u5 u6 hx m1 m2 hk (hne kw rfl)
theorem is_lone_number_yes (rd d l nm sh : Addr) (i n : Nat) (t1 t2 t3 t4 t5 : Tok) (vs : List Value) (h1 : (rd, instObj 701 d) ∈ led) (h2 : (d, rdObj w l nm sh i t1 t2 t3 t4 t5) ∈ led) (h3 : (l, W.listOf vs.toArray n) ∈ led) (hi : i ≤ 900) (hz : vs.length ≤ 900) (pb pd pa : Addr) (pk pw : Str) (p1 p2 p3 p4 p5 p6 : Tok) (px : vs[i]? = some (.ref pb)) (pm : (pb, instObj 192 pd) ∈ led) (pn : (pd, tokObj w pk pw pa p1 p2 p3 p4 p5 p6) ∈ led)(qb qd qa : Addr) (qk qw : Str) (q1 q2 q3 q4 q5 q6 : Tok) (qx : vs[i + 1]? = some (.ref qb)) (qm : (qb, instObj 192 qd) ∈ led) (qn : (qd, tokObj w qk qw qa q1 q2 q3 q4 q5 q6) ∈ led) (f1 : (pk != Str.ofString "number") = false) (f2 : (qk != Str.ofString "sign") = false) (f3 : (qw != Str.ofString "**") = true) : Con w loose mean mg mb 471 7 [.ref rd] led (Back led fun _ => .bool true) := by
  unfold Con
  k_fill
  intro dp un gd cn cs a ccd cl outer A₀ base h₀ L m s Q E B F X N T hkf hd hu ret
  refine wpAny_call ?_
  k_dflt (refine' code_def (binds := [("reader", Value.ref rd)]) ?k1 ?k2 ?k3 ?k4 ?k5 ?kA ?kF ?kK ?k6 ?k7 ?k8 ?k9 ?kB ?_ ?c2 ?c3 ?c4 ?c5; (case kA => exact rfl); (case kF => exact rfl); (case kK => assumption); (case k1 => k_asm); (case k2 => k_asm); (case k3 => k_asm); (case k4 => k_asm); (case k5 => k_asm); (case k6 => k_is); (case k7 => k_is); (case k8 => ktr_room); (case k9 => first | exact BindsTo.of_eq rfl | exact kp_binds (by k_in) (fun _ => by kernel_rfl)); (case c5 => decide); (case kB => exact locs rfl); (case c2 => exact rfl); (case c3 => exact rfl); (case c4 => exact rfl); k_whole; intro g' L' h' FG' F' N' B' X' T'; (try dsimp only); (try k_lift B'); (try k_fold))
  k_steps
  refine useN (by k_asm) (by k_asm) (by k_asm) (by k_asm) (by k_asm) (by first | exact rfl | assumption) (peek_v0 rd d l nm sh _ n _ _ _ _ _ vs (by k_mem) (by k_mem) (by k_mem) (.ref pb) (by omega) (by omega) (by assumption)) (by ktr_room) (by ktr_units) ?_
  intro t9 h9 tk9 F9 N9
  (try dsimp only)
  (try k_fold)
  k_steps
  refine useN (by k_asm) (by k_asm) (by k_asm) (by k_asm) (by k_asm) (by first | exact rfl | assumption) (peek_v rd d l nm sh _ n _ _ _ _ _ vs (by k_mem) (by k_mem) (by k_mem) _ _ (i + 1) (.ref qb) (by omega) (by omega) (by omega) (by assumption)) (by ktr_room) (by ktr_units) ?_
  intro t9 h9 tk9 F9 N9
  (try dsimp only)
  (try k_fold)
  k_steps
  all_goals exact ret _ led _ _ (by k_asm) (by first | k_asm | exact news_sub (by k_asm) (by first | exact sub_self | exact sub_more sub_self | exact sub_more (sub_more sub_self) | exact sub_more (sub_more (sub_more sub_self)))) (backB' (by first | rfl | assumption | simp_all))
theorem is_number_a (rd d l nm sh : Addr) (i n : Nat) (t1 t2 t3 t4 t5 : Tok) (vs : List Value) (h1 : (rd, instObj 701 d) ∈ led) (h2 : (d, rdObj w l nm sh i t1 t2 t3 t4 t5) ∈ led) (h3 : (l, W.listOf vs.toArray n) ∈ led) (hi : i ≤ 900) (hz : vs.length ≤ 900)  (o : Option (Str × Str)) (hp : Pk w led vs i o) (f1 : signIs o (Str.ofString "+") = false) (f2 : signIs o (Str.ofString "-") = false) (bb : Bool) (f3 : kindIs o (Str.ofString "number") = bb) : Con w loose mean mg mb 670 10 [.ref rd] led (Back led fun _ => .bool bb) := by
  unfold Con
  k_fill
  intro dp un gd cn cs a ccd cl outer A₀ base h₀ L m s Q E B F X N T hkf hd hu ret
  refine wpAny_call ?_
  k_dflt (refine' code_def (binds := [("self", Value.ref rd)]) ?k1 ?k2 ?k3 ?k4 ?k5 ?kA ?kF ?kK ?k6 ?k7 ?k8 ?k9 ?kB ?_ ?c2 ?c3 ?c4 ?c5; (case kA => exact rfl); (case kF => exact rfl); (case kK => assumption); (case k1 => k_asm); (case k2 => k_asm); (case k3 => k_asm); (case k4 => k_asm); (case k5 => k_asm); (case k6 => k_is); (case k7 => k_is); (case k8 => ktr_room); (case k9 => first | exact BindsTo.of_eq rfl | exact kp_binds (by k_in) (fun _ => by kernel_rfl)); (case c5 => decide); (case kB => exact locs rfl); (case c2 => exact rfl); (case c3 => exact rfl); (case c4 => exact rfl); k_whole; intro g' L' h' FG' F' N' B' X' T'; (try dsimp only); (try k_lift B'); (try k_fold))
  k_steps
  refine useN (by k_asm) (by k_asm) (by k_asm) (by k_asm) (by k_asm) (by first | exact rfl | assumption) (is_sign_ok0 rd d l nm sh _ n _ _ _ _ _ vs (by k_mem) (by k_mem) (by k_mem) _ _ o _ (by omega) (by omega) (by assumption) f1) (by ktr_room) (by ktr_units) ?_
  intro t9 h9 tk9 F9 N9
  (try dsimp only)
  (try k_fold)
  k_steps
  refine useN (by k_asm) (by k_asm) (by k_asm) (by k_asm) (by k_asm) (by first | exact rfl | assumption) (is_sign_ok0 rd d l nm sh _ n _ _ _ _ _ vs (by k_mem) (by k_mem) (by k_mem) _ _ o _ (by omega) (by omega) (by assumption) f2) (by ktr_room) (by ktr_units) ?_
  intro t9 h9 tk9 F9 N9
  (try dsimp only)
  (try k_fold)
  k_steps
  refine useN (by k_asm) (by k_asm) (by k_asm) (by k_asm) (by k_asm) (by first | exact rfl | assumption) (is_kind_ok0 rd d l nm sh _ n _ _ _ _ _ vs (by k_mem) (by k_mem) (by k_mem) _ _ o _ (by omega) (by omega) hp f3) (by ktr_room) (by ktr_units) ?_
  intro t9 h9 tk9 F9 N9
  (try dsimp only)
  (try k_fold)
  k_steps
  all_goals exact ret _ led _ _ (by k_asm) (by first | k_asm | exact news_sub (by k_asm) (by first | exact sub_self | exact sub_more sub_self | exact sub_more (sub_more sub_self) | exact sub_more (sub_more (sub_more sub_self)))) (backB' (by first | rfl | assumption | simp_all))
theorem is_number_b (rd d l nm sh : Addr) (i n : Nat) (t1 t2 t3 t4 t5 : Tok) (vs : List Value) (h1 : (rd, instObj 701 d) ∈ led) (h2 : (d, rdObj w l nm sh i t1 t2 t3 t4 t5) ∈ led) (h3 : (l, W.listOf vs.toArray n) ∈ led) (hi : i ≤ 900) (hz : vs.length ≤ 900)  (o : Option (Str × Str)) (hp : Pk w led vs i o) (o1 : Option (Str × Str)) (hp1 : Pk w led vs (i + 1) o1) (f1 : signIs o (Str.ofString "+") = false) (f2 : signIs o (Str.ofString "-") = true) (f3 : kindIs o1 (Str.ofString "number") = true) : Con w loose mean mg mb 670 10 [.ref rd] led (Back led fun _ => .bool true) := by
  unfold Con
  k_fill
  intro dp un gd cn cs a ccd cl outer A₀ base h₀ L m s Q E B F X N T hkf hd hu ret
  refine wpAny_call ?_
  k_dflt (refine' code_def (binds := [("self", Value.ref rd)]) ?k1 ?k2 ?k3 ?k4 ?k5 ?kA ?kF ?kK ?k6 ?k7 ?k8 ?k9 ?kB ?_ ?c2 ?c3 ?c4 ?c5; (case kA => exact rfl); (case kF => exact rfl); (case kK => assumption); (case k1 => k_asm); (case k2 => k_asm); (case k3 => k_asm); (case k4 => k_asm); (case k5 => k_asm); (case k6 => k_is); (case k7 => k_is); (case k8 => ktr_room); (case k9 => first | exact BindsTo.of_eq rfl | exact kp_binds (by k_in) (fun _ => by kernel_rfl)); (case c5 => decide); (case kB => exact locs rfl); (case c2 => exact rfl); (case c3 => exact rfl); (case c4 => exact rfl); k_whole; intro g' L' h' FG' F' N' B' X' T'; (try dsimp only); (try k_lift B'); (try k_fold))
  k_steps
  refine useN (by k_asm) (by k_asm) (by k_asm) (by k_asm) (by k_asm) (by first | exact rfl | assumption) (is_sign_ok0 rd d l nm sh _ n _ _ _ _ _ vs (by k_mem) (by k_mem) (by k_mem) _ _ o _ (by omega) (by omega) (by assumption) f1) (by ktr_room) (by ktr_units) ?_
  intro t9 h9 tk9 F9 N9
  (try dsimp only)
  (try k_fold)
  k_steps
  refine useN (by k_asm) (by k_asm) (by k_asm) (by k_asm) (by k_asm) (by first | exact rfl | assumption) (is_sign_ok0 rd d l nm sh _ n _ _ _ _ _ vs (by k_mem) (by k_mem) (by k_mem) _ _ o _ (by omega) (by omega) (by assumption) f2) (by ktr_room) (by ktr_units) ?_
  intro t9 h9 tk9 F9 N9
  (try dsimp only)
  (try k_fold)
  k_steps
  refine useN (by k_asm) (by k_asm) (by k_asm) (by k_asm) (by k_asm) (by first | exact rfl | assumption) (is_kind_ok rd d l nm sh _ n _ _ _ _ _ vs (by k_mem) (by k_mem) (by k_mem) _ _ _ _ (i + 1) o1 _ (by omega) (by omega) (by omega) hp1 f3) (by ktr_room) (by ktr_units) ?_
  intro t9 h9 tk9 F9 N9
  (try dsimp only)
  (try k_fold)
  k_steps
  all_goals exact ret _ led _ _ (by k_asm) (by first | k_asm | exact news_sub (by k_asm) (by first | exact sub_self | exact sub_more sub_self | exact sub_more (sub_more sub_self) | exact sub_more (sub_more (sub_more sub_self)))) (backB' (by first | rfl | assumption | simp_all))
theorem read_figure_no (rd d l nm sh : Addr) (i n : Nat) (t1 t2 t3 t4 t5 : Tok) (vs : List Value) (h1 : (rd, instObj 701 d) ∈ led) (h2 : (d, rdObj w l nm sh i t1 t2 t3 t4 t5) ∈ led) (h3 : (l, W.listOf vs.toArray n) ∈ led) (hi : i ≤ 900) (hz : vs.length ≤ 900) (pb pd pa : Addr) (pk pw : Str) (p1 p2 p3 p4 p5 p6 : Tok) (px : vs[i]? = some (.ref pb)) (pm : (pb, instObj 192 pd) ∈ led) (pn : (pd, tokObj w pk pw pa p1 p2 p3 p4 p5 p6) ∈ led) (o : Option (Str × Str)) (hp : Pk w led vs i o) (f1 : kindIs o (Str.ofString "word") = true) (f2 : pw = Str.ofString "A") : Con w loose mean mg mb 390 10 [.ref rd] led (Back led fun _ => .none) := by
  unfold Con
  k_fill
  intro dp un gd cn cs a ccd cl outer A₀ base h₀ L m s Q E B F X N T hkf hd hu ret
  subst f2
  refine wpAny_call ?_
  k_dflt (refine' code_def (binds := [("reader", Value.ref rd)]) ?k1 ?k2 ?k3 ?k4 ?k5 ?kA ?kF ?kK ?k6 ?k7 ?k8 ?k9 ?kB ?_ ?c2 ?c3 ?c4 ?c5; (case kA => exact rfl); (case kF => exact rfl); (case kK => assumption); (case k1 => k_asm); (case k2 => k_asm); (case k3 => k_asm); (case k4 => k_asm); (case k5 => k_asm); (case k6 => k_is); (case k7 => k_is); (case k8 => ktr_room); (case k9 => first | exact BindsTo.of_eq rfl | exact kp_binds (by k_in) (fun _ => by kernel_rfl)); (case c5 => decide); (case kB => exact locs rfl); (case c2 => exact rfl); (case c3 => exact rfl); (case c4 => exact rfl); k_whole; intro g' L' h' FG' F' N' B' X' T'; (try dsimp only); (try k_lift B'); (try k_fold))
  k_steps
  refine useN (by k_asm) (by k_asm) (by k_asm) (by k_asm) (by k_asm) (by first | exact rfl | assumption) (is_kind_ok0 rd d l nm sh _ n _ _ _ _ _ vs (by k_mem) (by k_mem) (by k_mem) _ _ o _ (by omega) (by omega) hp f1) (by ktr_room) (by ktr_units) ?_
  intro t9 h9 tk9 F9 N9
  (try dsimp only)
  (try k_fold)
  k_steps
  refine useN (by k_asm) (by k_asm) (by k_asm) (by k_asm) (by k_asm) (by first | exact rfl | assumption) (peek_v0 rd d l nm sh _ n _ _ _ _ _ vs (by k_mem) (by k_mem) (by k_mem) (.ref pb) (by omega) (by omega) (by assumption)) (by ktr_room) (by ktr_units) ?_
  intro t9 h9 tk9 F9 N9
  (try dsimp only)
  (try k_fold)
  k_steps
  k_dflt (refine' topNotIn_K ?F ?X ?l ?k ?e ?o ?_; (case F => k_asm); (case X => k_asm); (case l => k_is); (case k => k_keys); (case e => k_is); (case o => decide))
  k_steps
  all_goals exact ret _ led _ _ (by k_asm) (by first | k_asm | exact news_sub (by k_asm) (by first | exact sub_self | exact sub_more sub_self | exact sub_more (sub_more sub_self) | exact sub_more (sub_more (sub_more sub_self)))) backN
theorem is_part_next_no (rd d l nm sh : Addr) (i n : Nat) (t1 t2 t3 t4 t5 : Tok) (vs : List Value) (h1 : (rd, instObj 701 d) ∈ led) (h2 : (d, rdObj w l nm sh i t1 t2 t3 t4 t5) ∈ led) (h3 : (l, W.listOf vs.toArray n) ∈ led) (hi : i ≤ 900) (hz : vs.length ≤ 900)  (o : Option (Str × Str)) (hp : Pk w led vs i o) (f1 : signIs o (Str.ofString "(") = false) : Con w loose mean mg mb 355 10 [.ref rd] led (Back led fun _ => .bool false) := by
  unfold Con
  k_fill
  intro dp un gd cn cs a ccd cl outer A₀ base h₀ L m s Q E B F X N T hkf hd hu ret
  refine wpAny_call ?_
  k_dflt (refine' code_def (binds := [("reader", Value.ref rd)]) ?k1 ?k2 ?k3 ?k4 ?k5 ?kA ?kF ?kK ?k6 ?k7 ?k8 ?k9 ?kB ?_ ?c2 ?c3 ?c4 ?c5; (case kA => exact rfl); (case kF => exact rfl); (case kK => assumption); (case k1 => k_asm); (case k2 => k_asm); (case k3 => k_asm); (case k4 => k_asm); (case k5 => k_asm); (case k6 => k_is); (case k7 => k_is); (case k8 => ktr_room); (case k9 => first | exact BindsTo.of_eq rfl | exact kp_binds (by k_in) (fun _ => by kernel_rfl)); (case c5 => decide); (case kB => exact locs rfl); (case c2 => exact rfl); (case c3 => exact rfl); (case c4 => exact rfl); k_whole; intro g' L' h' FG' F' N' B' X' T'; (try dsimp only); (try k_lift B'); (try k_fold))
  k_steps
  refine whl_turn (k := 0) (by passes_own) ?_
  k_steps
  refine useN (by k_asm) (by k_asm) (by k_asm) (by k_asm) (by k_asm) (by first | exact rfl | assumption) (is_sign_ok0 rd d l nm sh _ n _ _ _ _ _ vs (by k_mem) (by k_mem) (by k_mem) _ _ o _ (by omega) (by omega) (hp.mono (by first | exact sub_self | exact sub_more sub_self | exact sub_more (sub_more sub_self) | exact sub_more (sub_more (sub_more sub_self)))) f1) (by ktr_room) (by ktr_units) ?_
  intro t9 h9 tk9 F9 N9
  (try dsimp only)
  (try k_fold)
  k_steps
  all_goals exact ret _ led _ _ (by k_asm) (by first | k_asm | exact news_sub (by k_asm) (by first | exact sub_self | exact sub_more sub_self | exact sub_more (sub_more sub_self) | exact sub_more (sub_more (sub_more sub_self)))) (backB' (by first | rfl | assumption | simp_all))
end
end
theorem flush_33 : True := by
  w_top off
  first | walk1 | trivial
section
open PySem PySem.W PyProof.Rows PySem.Calls
set_option Elab.async false
set_option maxRecDepth 100000
set_option maxHeartbeats 0
section
variable {w : World} {loose : List Str} {mean : ExcName → Option Value} {mg mb : Str → Option Value} {led : Led}
local macro_rules | `(tactic| walk_at "exec For") => `(tactic| (k_here; (rename Fr _ _ _ _ => lF'); (with_unfolding_all refine' For_invVF lF' ?k1 ?k2 ?_; (case k1 => exact rfl); (case k2 => exact rfl); k_whole)))
local macro_rules | `(tactic| walk_at "pyIter ref") => `(tactic| (k_here; refine holdW ?_))
local macro_rules | `(tactic| walk_at "call builtin:str.index") => `(tactic| (k_here; refine holdW ?_))
local macro_rules | `(tactic| walk_at "subscriptTail Name Slice str ref") => `(tactic| (k_here; (first | (refine slice_sn_is (s := ⟨_, _, _, _, _⟩) (by with_reducible assumption) (by first | assumption | omega) (by k_asm) (by k_asm) ?_) | (refine slice_ns_is (s := ⟨_, _, _, _, _⟩) (by with_reducible assumption) (by first | assumption | omega) (by k_asm) (by k_asm) ?_)); intro h9 t9 k9 F9 N9))
theorem decimal_0 (n : Nat) (t u : Tok) : Con w loose mean mg mb 89 3 [.int (n : Int) t, .int 0 u] led (BackT led fun t1 t2 _ => [.int (n : Int) t1, .int 0 t2]) := by
  unfold Con
  k_fill
  intro dp un gd cn cs a ccd cl outer A₀ base h₀ L m s Q E B F X N T hkf hd hu ret
  refine wpAny_call ?_
  k_dflt (refine' code_def (binds := [("units", Value.int (n : Int) t), ("scale", Value.int 0 u)]) ?k1 ?k2 ?k3 ?k4 ?k5 ?kA ?kF ?kK ?k6 ?k7 ?k8 ?k9 ?kB ?_ ?c2 ?c3 ?c4 ?c5; (case kA => exact rfl); (case kF => exact rfl); (case kK => assumption); (case k1 => k_asm); (case k2 => k_asm); (case k3 => k_asm); (case k4 => k_asm); (case k5 => k_asm); (case k6 => k_is); (case k7 => k_is); (case k8 => ktr_room); (case k9 => first | exact BindsTo.of_eq rfl | exact kp_binds (by k_in) (fun _ => by kernel_rfl)); (case c5 => decide); (case kB => exact locs rfl); (case c2 => exact rfl); (case c3 => exact rfl); (case c4 => exact rfl); k_whole; intro g' L' h' FG' F' N' B' X' T'; (try dsimp only); (try k_lift B'); (try k_fold))
  k_steps
  refine whl_turn (k := 0) (by passes_own) ?_
  k_steps
  all_goals exact endT ret _ _ 0 (by k_asm) (by k_asm) (by first | exact sub_self | exact sub_more sub_self | exact sub_more (sub_more sub_self) | exact sub_more (sub_more (sub_more sub_self))) (by first | assumption | exact ktn_ltOf (by assumption) | exact ktn_ltOf (And.right (by assumption)) | exact ktn_ltOf (And.right (And.right (by assumption))))
theorem decimal_s (n sc : Nat) (t u : Tok) (h0 : ¬ (sc : Int) < 0) (h1 : 0 < (sc : Int)) (h2 : ((n : Int) % 10 == 0) = false) : Con w loose mean mg mb 89 3 [.int (n : Int) t, .int (sc : Int) u] led (BackT led fun t1 t2 _ => [.int (n : Int) t1, .int (sc : Int) t2]) := by
  unfold Con
  k_fill
  intro dp un gd cn cs a ccd cl outer A₀ base h₀ L m s Q E B F X N T hkf hd hu ret
  refine wpAny_call ?_
  k_dflt (refine' code_def (binds := [("units", Value.int (n : Int) t), ("scale", Value.int (sc : Int) u)]) ?k1 ?k2 ?k3 ?k4 ?k5 ?kA ?kF ?kK ?k6 ?k7 ?k8 ?k9 ?kB ?_ ?c2 ?c3 ?c4 ?c5; (case kA => exact rfl); (case kF => exact rfl); (case kK => assumption); (case k1 => k_asm); (case k2 => k_asm); (case k3 => k_asm); (case k4 => k_asm); (case k5 => k_asm); (case k6 => k_is); (case k7 => k_is); (case k8 => ktr_room); (case k9 => first | exact BindsTo.of_eq rfl | exact kp_binds (by k_in) (fun _ => by kernel_rfl)); (case c5 => decide); (case kB => exact locs rfl); (case c2 => exact rfl); (case c3 => exact rfl); (case c4 => exact rfl); k_whole; intro g' L' h' FG' F' N' B' X' T'; (try dsimp only); (try k_lift B'); (try k_fold))
  k_steps
  refine whl_turn (k := 0) (by passes_own) ?_
  k_steps
  all_goals exact endT ret _ _ 0 (by k_asm) (by k_asm) (by first | exact sub_self | exact sub_more sub_self | exact sub_more (sub_more sub_self) | exact sub_more (sub_more (sub_more sub_self))) (by first | assumption | exact ktn_ltOf (by assumption) | exact ktn_ltOf (And.right (by assumption)) | exact ktn_ltOf (And.right (And.right (by assumption))))
theorem negated_ok (ad : Addr) (x y : Int) (t u : Tok) (hm : (ad, tupObj [.int x t, .int y u]) ∈ led) : Con w loose mean mg mb 96 3 [.ref ad] led (BackT led fun t1 t2 _ => [.int (-x) t1, .int y t2]) := by
  unfold Con
  k_fill
  intro dp un gd cn cs a ccd cl outer A₀ base h₀ L m s Q E B F X N T hkf hd hu ret
  refine wpAny_call ?_
  k_dflt (refine' code_def (binds := [("a", Value.ref ad)]) ?k1 ?k2 ?k3 ?k4 ?k5 ?kA ?kF ?kK ?k6 ?k7 ?k8 ?k9 ?kB ?_ ?c2 ?c3 ?c4 ?c5; (case kA => exact rfl); (case kF => exact rfl); (case kK => assumption); (case k1 => k_asm); (case k2 => k_asm); (case k3 => k_asm); (case k4 => k_asm); (case k5 => k_asm); (case k6 => k_is); (case k7 => k_is); (case k8 => ktr_room); (case k9 => first | exact BindsTo.of_eq rfl | exact kp_binds (by k_in) (fun _ => by kernel_rfl)); (case c5 => decide); (case kB => exact locs rfl); (case c2 => exact rfl); (case c3 => exact rfl); (case c4 => exact rfl); k_whole; intro g' L' h' FG' F' N' B' X' T'; (try dsimp only); (try k_lift B'); (try k_fold))
  k_steps
  all_goals exact endT ret _ _ 0 (by k_asm) (by k_asm) (by first | exact sub_self | exact sub_more sub_self | exact sub_more (sub_more sub_self) | exact sub_more (sub_more (sub_more sub_self))) (by first | assumption | exact ktn_ltOf (by assumption) | exact ktn_ltOf (And.right (by assumption)) | exact ktn_ltOf (And.right (And.right (by assumption))))
theorem decimal_ok (n sc : Nat) (t u : Tok) (k : Int) (hk : k = (sc : Int)) (h : sc = 0 ∨ n % 10 ≠ 0) : Con w loose mean mg mb 89 3 [.int (n : Int) t, .int k u] led (BackT led fun t1 t2 _ => [.int (n : Int) t1, .int (sc : Int) t2]) := by
  subst hk
  by_cases h0 : sc = 0
  · subst h0
    exact decimal_0 n t u
  · refine decimal_s n sc t u (by omega) (by omega) ?_
    have h1 : n % 10 ≠ 0 := h.resolve_left h0
    refine beq_eq_false_iff_ne.mpr fun e => h1 ?_
    omega
theorem worth_of_eq (y : Str) (l : List Nat) (t : Tok) (hy : y = S l) (hl : ∀ c ∈ l, IsDig c) (hz : l.length ≤ 18) (k : Nat) (hk : valOf l = k) : Con w loose mean mg mb 124 4 [.str y t] led (Back led fun t => .int (k : Int) t) := by
  subst hk; subst hy
  exact worth_of_ok l t hl hz
theorem range_size {n : Nat} (h : n ≤ 1000) : Builtin.Range.rangeSize 0 (n : Int) 1 = (n : Int) := by
  unfold Builtin.Range.rangeSize
  simp only [show (1 : Int) > 0 by decide, if_true]
  split <;> omega
theorem range_is_small {n : Nat} (h : n ≤ 1000) : Builtin.Range.small 0 (n : Int) 1 = true := by
  have e := range_size h
  unfold Builtin.Range.small Builtin.Range.rangeFitsLong
  rw [e]
  simp
  omega
theorem not_plus {c : Nat} {l : List Nat} (h : c ≠ 43 ∧ c ≠ 45) : (([Str.ofString "+", Str.ofString "-"] : List Str).any fun y => y == S ((c :: l).take 1)) = false ∧ (S ((c :: l).take 1) == Str.ofString "-") = false := by
  rw [show (Str.ofString "+") = S [43] from by decide +kernel, show (Str.ofString "-") = S [45] from by decide +kernel]
  simp only [List.any_cons, List.any_nil, S_inj, List.take_succ_cons, List.take_zero, Bool.or_false]
  simp only [List.cons.injEq, and_true, Bool.or_eq_false_iff, decide_eq_false_iff_not]
  omega
theorem read_decimal_w (l : List Nat) (n : Nat) (t : Tok) (hl : ∀ c ∈ l, IsDig c) (hz : l.length ≤ 18) (hv : valOf l = n) (hp : 0 < l.length) : Con w loose mean mg mb 131 9 [.str (S l) t] led (BackT led fun t1 t2 _ => [.int (n : Int) t1, .int ((0 : Nat) : Int) t2]) := by
  unfold Con
  k_fill
  intro dp un gd cn cs a ccd cl outer A₀ base h₀ L m s Q E B F X N T hkf hd hu ret
  have hlen : (S l).length ≤ 1000 := by rw [len_S]; omega
  have e1 : Txt.slice (S l) none (some 1) = S (l.take 1) := slice_to l 1
  have e2 : Txt.slice (S l) (some 0) none = S l := by have := slice_from l 0; rwa [List.drop_zero] at this
  have fP : (([Str.ofString "+", Str.ofString "-"] : List Str).any fun y => y == S (l.take 1)) = false ∧ (S (l.take 1) == Str.ofString "-") = false := by
    cases l with
    | nil => simp at hp
    | cons c r => exact not_plus (by have := hl c (List.mem_cons_self ..); unfold IsDig at this; omega)
  have f1 := fP.1
  have f4 := fP.2
  have f2 : (Builtin.Str.occurrences (S l) (Str.ofString ".") 0 (S l).length 1).isEmpty = true := by
    rw [show Str.ofString "." = ⟨#[46]⟩ from by decide +kernel, occ_is rfl]
    simp only [Bool.not_eq_true', decide_eq_false_iff_not]
    intro h
    have := hl 46 (by simpa using h)
    unfold IsDig at this
    omega
  have f3 : (S l ++ Str.ofString "" == Str.ofString "") = false := by
    rw [show Str.ofString "" = S [] from by decide +kernel, S_app, List.append_nil, S_inj, decide_eq_false_iff_not]
    intro h; rw [h] at hp; simp at hp
  refine wpAny_call ?_
  k_dflt (refine' code_def (binds := [("text", Value.str (S l) t)]) ?k1 ?k2 ?k3 ?k4 ?k5 ?kA ?kF ?kK ?k6 ?k7 ?k8 ?k9 ?kB ?_ ?c2 ?c3 ?c4 ?c5; (case kA => exact rfl); (case kF => exact rfl); (case kK => assumption); (case k1 => k_asm); (case k2 => k_asm); (case k3 => k_asm); (case k4 => k_asm); (case k5 => k_asm); (case k6 => k_is); (case k7 => k_is); (case k8 => ktr_room); (case k9 => first | exact BindsTo.of_eq rfl | exact kp_binds (by k_in) (fun _ => by kernel_rfl)); (case c5 => decide); (case kB => exact locs rfl); (case c2 => exact rfl); (case c3 => exact rfl); (case c4 => exact rfl); k_whole; intro g' L' h' FG' F' N' B' X' T'; (try dsimp only); (try k_lift B'); (try k_fold))
  k_steps
  refine iter_range_plain (by k_asm) ?hs ?hn (by rfl) (by k_asm) (by k_asm) ?turn ?_ (n := l.length)
  case hs => rw [len_S]; exact range_is_small (by omega)
  case hn => rw [len_S]; exact range_size (by omega)
  case turn =>
    intro I it i h2 tk2 t3 hlt hi F2 N2
    have hc := List.getElem?_eq_getElem hi
    have hdg := hl _ (List.getElem_mem hi)
    have fI : (Builtin.Str.occurrences (Str.ofString "0123456789") (Txt.item (S l) (0 + (i : Int))) 0 (Str.ofString "0123456789").length 1).isEmpty = false := by
      rw [Int.zero_add, item_S hc, index_dig hdg]; rfl
    have hi2 : 0 + (i : Int) < ((S l).length : Int) := by rw [len_S]; omega
    k_steps
    exact ⟨_, _, _, _, rfl, by k_asm, by k_asm, fun p hp => hp⟩
  intro v h2 tk2 F2 N2
  k_steps
  refine useN (by k_asm) (by k_asm) (by k_asm) (by k_asm) (by k_asm) (by first | exact rfl | assumption) (worth_of_eq _ l _ (by rw [show Str.ofString "" = S [] from by decide +kernel, S_app, List.append_nil]) hl hz n hv) (by ktr_room) (by ktr_units) ?_
  intro t9 h9 tk9 F9 N9
  (try dsimp only)
  (try k_fold)
  k_steps
  refine useTN (by k_asm) (by k_asm) (by k_asm) (by k_asm) (by k_asm) (by first | exact rfl | assumption) (decimal_ok n 0 _ _ _ (by rfl) (.inl rfl)) (by ktr_room) (by ktr_units) ?_
  intro D9 t9 u9 v9 h9 tk9 F9 N9 l9
  (try dsimp only)
  (try k_fold)
  k_steps
  all_goals exact endT ret _ _ 0 (by k_asm) (by k_asm) (by first | exact sub_self | exact sub_more sub_self | exact sub_more (sub_more sub_self) | exact sub_more (sub_more (sub_more sub_self))) (fun p hp => l9 p (by first | exact hp | exact List.mem_cons_of_mem _ hp | exact List.mem_cons_of_mem _ (List.mem_cons_of_mem _ hp) | exact List.mem_cons_of_mem _ (List.mem_cons_of_mem _ (List.mem_cons_of_mem _ hp))))
theorem read_decimal_p (a1 b1 : List Nat) (n : Nat) (t : Tok) (ha : ∀ c ∈ a1, IsDig c) (hb : ∀ c ∈ b1, IsDig c) (hz : a1.length + b1.length ≤ 18) (hv : valOf (a1 ++ b1) = n) (hp : 0 < b1.length) (hn : n % 10 ≠ 0) : Con w loose mean mg mb 131 9 [.str (S (a1 ++ 46 :: b1)) t] led (BackT led fun t1 t2 _ => [.int (n : Int) t1, .int ((b1.length : Nat) : Int) t2]) := by
  unfold Con
  k_fill
  intro dp un gd cn cs a ccd cl outer A₀ base h₀ L m s Q E B F X N T hkf hd hu ret
  have hl1 : (a1 ++ 46 :: b1).length = a1.length + b1.length + 1 := by rw [List.length_append, List.length_cons]; omega
  have hlen : (S (a1 ++ 46 :: b1)).length ≤ 1000 := by rw [len_S]; omega
  have hla : (S a1).length ≤ 1000 := by rw [len_S]; omega
  have hlb : (S b1).length ≤ 1000 := by rw [len_S]; omega
  have na : 46 ∉ a1 := fun h => by have := ha 46 h; unfold IsDig at this; omega
  have e1 : Txt.slice (S (a1 ++ 46 :: b1)) none (some 1) = S ((a1 ++ 46 :: b1).take 1) := slice_to _ 1
  have e2 : Txt.slice (S (a1 ++ 46 :: b1)) (some 0) none = S (a1 ++ 46 :: b1) := by have := slice_from (a1 ++ 46 :: b1) 0; rwa [List.drop_zero] at this
  have e3 : Txt.slice (S (a1 ++ 46 :: b1)) none (some (a1.length : Int)) = S a1 := by rw [slice_to, List.take_left]
  have e4 : Txt.slice (S (a1 ++ 46 :: b1)) (some ((a1.length : Int) + 1)) none = S b1 := by
    have := slice_from (a1 ++ 46 :: b1) (a1.length + 1)
    rw [show ((a1.length + 1 : Nat) : Int) = (a1.length : Int) + 1 from rfl] at this
    rw [this, List.drop_append, List.drop_eq_nil_of_le (by omega)]
    simp
  have fP : (([Str.ofString "+", Str.ofString "-"] : List Str).any fun y => y == S ((a1 ++ 46 :: b1).take 1)) = false ∧ (S ((a1 ++ 46 :: b1).take 1) == Str.ofString "-") = false := by
    cases a1 with
    | nil => exact not_plus (by omega)
    | cons c r => exact not_plus (by have := ha c (List.mem_cons_self ..); unfold IsDig at this; omega)
  have f1 := fP.1
  have f4 := fP.2
  have f2 : (Builtin.Str.occurrences (S (a1 ++ 46 :: b1)) (Str.ofString ".") 0 (S (a1 ++ 46 :: b1)).length 1).isEmpty = false := by
    rw [show Str.ofString "." = ⟨#[46]⟩ from by decide +kernel, occ_is rfl]
    simp
  have f5 : Builtin.Str.occurrences (S (a1 ++ 46 :: b1)) (Str.ofString ".") 0 (S (a1 ++ 46 :: b1)).length 1 = [a1.length] := by
    rw [show Str.ofString "." = S [46] from by decide +kernel]
    exact occ1_point a1 b1 46 na
  have f6 : (S b1 == Str.ofString "") = false := by
    rw [show Str.ofString "" = S [] from by decide +kernel, S_inj, decide_eq_false_iff_not]
    intro h; rw [h] at hp; simp at hp
  have f3 : (S a1 ++ S b1 == Str.ofString "") = false := by
    rw [show Str.ofString "" = S [] from by decide +kernel, S_app, S_inj, decide_eq_false_iff_not]
    intro h; rw [List.append_eq_nil_iff] at h; rw [h.2] at hp; simp at hp
  refine wpAny_call ?_
  k_dflt (refine' code_def (binds := [("text", Value.str (S (a1 ++ 46 :: b1)) t)]) ?k1 ?k2 ?k3 ?k4 ?k5 ?kA ?kF ?kK ?k6 ?k7 ?k8 ?k9 ?kB ?_ ?c2 ?c3 ?c4 ?c5; (case kA => exact rfl); (case kF => exact rfl); (case kK => assumption); (case k1 => k_asm); (case k2 => k_asm); (case k3 => k_asm); (case k4 => k_asm); (case k5 => k_asm); (case k6 => k_is); (case k7 => k_is); (case k8 => ktr_room); (case k9 => first | exact BindsTo.of_eq rfl | exact kp_binds (by k_in) (fun _ => by kernel_rfl)); (case c5 => decide); (case kB => exact locs rfl); (case c2 => exact rfl); (case c3 => exact rfl); (case c4 => exact rfl); k_whole; intro g' L' h' FG' F' N' B' X' T'; (try dsimp only); (try k_lift B'); (try k_fold))
  k_steps
  refine index_call f5 ?_
  k_steps
  refine iter_range_plain (by k_asm) ?hs ?hn (by rfl) (by k_asm) (by k_asm) ?turn ?_ (n := (a1 ++ 46 :: b1).length)
  case hs => rw [len_S]; exact range_is_small (by omega)
  case hn => rw [len_S]; exact range_size (by omega)
  case turn =>
    intro I it i h2 tk2 t3 hlt hi F2 N2
    have hi2 : 0 + (i : Int) < ((S (a1 ++ 46 :: b1)).length : Int) := by rw [len_S]; omega
    by_cases hq : i = a1.length
    · have fJ : (0 + (i : Int) != 0 + ((S a1).length : Int)) = false := by rw [len_S, hq]; simp
      have fI : (Builtin.Str.occurrences (Str.ofString "0123456789") (Txt.item (S (a1 ++ 46 :: b1)) (0 + (i : Int))) 0 (Str.ofString "0123456789").length 1).isEmpty = true := by
        rw [Int.zero_add, item_S (c := 46) (by rw [hq]; simp)]; decide +kernel
      k_steps
      exact ⟨_, _, _, _, rfl, by k_asm, by k_asm, fun p hp => hp⟩
    · have hc := List.getElem?_eq_getElem hi
      have hdg : IsDig ((a1 ++ 46 :: b1)[i]) := by
        rcases Nat.lt_or_ge i a1.length with h | h
        · rw [List.getElem_append_left h]; exact ha _ (List.getElem_mem h)
        · rw [List.getElem_append_right h]
          rw [List.getElem_cons]
          rw [dif_neg (by omega)]
          exact hb _ (List.getElem_mem _)
      have fI : (Builtin.Str.occurrences (Str.ofString "0123456789") (Txt.item (S (a1 ++ 46 :: b1)) (0 + (i : Int))) 0 (Str.ofString "0123456789").length 1).isEmpty = false := by
        rw [Int.zero_add, item_S hc, index_dig hdg]; rfl
      k_steps
      exact ⟨_, _, _, _, rfl, by k_asm, by k_asm, fun p hp => hp⟩
  intro v h2 tk2 F2 N2
  k_steps
  refine useN (by k_asm) (by k_asm) (by k_asm) (by k_asm) (by k_asm) (by first | exact rfl | assumption) (worth_of_eq _ (a1 ++ b1) _ (S_app _ _) (fun c hc => (List.mem_append.mp hc).elim (ha c) (hb c)) (by rw [List.length_append]; exact hz) n hv) (by ktr_room) (by ktr_units) ?_
  intro t9 h9 tk9 F9 N9
  (try dsimp only)
  (try k_fold)
  k_steps
  refine useTN (by k_asm) (by k_asm) (by k_asm) (by k_asm) (by k_asm) (by first | exact rfl | assumption) (decimal_ok n b1.length _ _ _ (by first | rw [len_S] | exact len_S b1 ▸ rfl) (.inr hn)) (by ktr_room) (by ktr_units) ?_
  intro D9 t9 u9 v9 h9 tk9 F9 N9 l9
  (try dsimp only)
  (try k_fold)
  k_steps
  all_goals exact endT ret _ _ 0 (by k_asm) (by k_asm) (by first | exact sub_self | exact sub_more sub_self | exact sub_more (sub_more sub_self) | exact sub_more (sub_more (sub_more sub_self))) (fun p hp => l9 p (by first | exact hp | exact List.mem_cons_of_mem _ hp | exact List.mem_cons_of_mem _ (List.mem_cons_of_mem _ hp) | exact List.mem_cons_of_mem _ (List.mem_cons_of_mem _ (List.mem_cons_of_mem _ hp))))
end
end
theorem flush_34 : True := by
  w_top off
  first | walk1 | trivial
section
open PySem PySem.W PyProof.Rows PySem.Calls
set_option Elab.async false
set_option maxRecDepth 100000
set_option maxHeartbeats 0
section
variable {w : World} {loose : List Str} {mean : ExcName → Option Value} {mg mb : Str → Option Value} {led : Led}
def PairV (d : Addr) (x y : Int) (led : Led) (v : Value) : Prop := ∃ a2 u1 u2, v = .ref a2 ∧ (a2, tupObj [.int x u1, .int y u2]) ∈ led ∧ Fx d a2
def NumV (d : Addr) (x y : Int) (led : Led) (v : Value) : Prop := ∃ a1 a2 u1 u2 u3, v = .ref a1 ∧ (a1, tupObj [.str (Str.ofString "number") u1, .ref a2]) ∈ led ∧ (a2, tupObj [.int x u2, .int y u3]) ∈ led ∧ Fx d a1 ∧ Fx d a2
def Val (d : Addr) (pd : PyData) (led : Led) (v : Value) : Prop := ∃ fz : Led, (∀ p ∈ fz, p ∈ led ∧ Fx d p.1) ∧ ∀ h₀ L h, News h₀ L h fz → Reads h v pd []
def Vals (d : Addr) (ds : List PyData) (led : Led) (vs : List Value) : Prop := ∃ fz : Led, (∀ p ∈ fz, p ∈ led ∧ Fx d p.1) ∧ ∀ h₀ L h, News h₀ L h fz → ReadsAll h vs ds []
theorem PairV.stable {d : Addr} {x y : Int} : Stable d (PairV d x y) := fun _ _ _ hs ⟨a2, u1, u2, e, m, n⟩ => ⟨a2, u1, u2, e, hs _ m n, n⟩
theorem NumV.stable {d : Addr} {x y : Int} : Stable d (NumV d x y) := fun _ _ _ hs ⟨a1, a2, u1, u2, u3, e, m1, m2, n1, n2⟩ => ⟨a1, a2, u1, u2, u3, e, hs _ m1 n1, hs _ m2 n2, n1, n2⟩
theorem Val.stable {d : Addr} {pd : PyData} : Stable d (Val d pd) := fun _ _ _ hs ⟨fz, h1, h2⟩ => ⟨fz, fun p hp => ⟨hs _ (h1 p hp).1 (h1 p hp).2, (h1 p hp).2⟩, h2⟩
theorem Val.int {d : Addr} {led : Led} {i : Int} {t : Tok} : Val d (.int i) led (.int i t) := ⟨[], (fun _ h => nomatch h), fun _ _ _ _ => .int i t⟩
theorem Val.str {d : Addr} {led : Led} {x : Str} {t : Tok} : Val d (.str x) led (.str x t) := ⟨[], (fun _ h => nomatch h), fun _ _ _ _ => .str x t⟩
theorem Val.none {d : Addr} {led : Led} : Val d .none led .none := ⟨[], (fun _ h => nomatch h), fun _ _ _ _ => .none⟩
theorem Vals.nil {d : Addr} {led : Led} : Vals d [] led [] := ⟨[], (fun _ h => nomatch h), fun _ _ _ _ => .nil⟩
theorem Vals.cons {d : Addr} {led : Led} {v : Value} {vs : List Value} {pd : PyData} {ds : List PyData} (h : Val d pd led v) (hs : Vals d ds led vs) : Vals d (pd :: ds) led (v :: vs) := by
  obtain ⟨f1, a1, b1⟩ := h
  obtain ⟨f2, a2, b2⟩ := hs
  refine ⟨f1 ++ f2, fun p hp => (List.mem_append.mp hp).elim (a1 p) (a2 p), fun h₀ L h N => ?_⟩
  exact .cons (b1 h₀ L h fun p hp => N p (List.mem_append_left _ hp)) (b2 h₀ L h fun p hp => N p (List.mem_append_right _ hp))
theorem Val.tup {d : Addr} {led : Led} {a : Addr} {vs : List Value} {ds : List PyData} (hm : (a, tupObj vs) ∈ led) (hne : Fx d a) (hs : Vals d ds led vs) : Val d (.tuple ds) led (.ref a) := by
  obtain ⟨f2, a2, b2⟩ := hs
  refine ⟨(a, tupObj vs) :: f2, fun p hp => ?_, fun h₀ L h N => ?_⟩
  · rcases List.mem_cons.mp hp with rfl | hp
    · exact ⟨hm, hne⟩
    · exact a2 p hp
  · exact .tuple (N _ (.head _)).1 rfl rfl (b2 h₀ L h fun p hp => N p (.tail _ hp))
theorem Val.more {d : Addr} {pd : PyData} {led led' : Led} {v : Value} (h : Val d pd led v) (hs : ∀ p ∈ led, p ∈ led') : Val d pd led' v := Val.stable led led' v (fun p hp _ => hs p hp) h
theorem NumV.val {d : Addr} {x y : Int} {led : Led} {v : Value} (h : NumV d x y led v) : Val d (.tuple [.str (Str.ofString "number"), .tuple [.int x, .int y]]) led v := by
  obtain ⟨a1, a2, u1, u2, u3, rfl, m1, m2, n1, n2⟩ := h
  exact Val.tup m1 n1 (.cons .str (.cons (Val.tup m2 n2 (.cons .int (.cons .int .nil))) .nil))
theorem signIs_no {k x g : Str} (h : (k == Str.ofString "sign") = false) : signIs (some (k, x)) g = false := by
  show (k == Str.ofString "sign" && x == g) = false
  rw [h]; rfl
theorem kindIs_eq {k x : Str} : kindIs (some (k, x)) k = true := beq_self_eq_true k
theorem ne_of_new {led : Led} {d D : Addr} {o : Obj} (hd : (d, o) ∈ led) (hlt : ∀ p ∈ led, p.1 < D) : D ≠ d := fun e => Nat.lt_irrefl _ (e ▸ hlt _ hd)
theorem fx_new {w : World} {bl led : Led} {d l nm sh D : Addr} {i : Nat} (S : St w bl led d l nm sh i) (hlt : ∀ p ∈ led, p.1 < D) : Fx d D :=
  let ⟨_, _, _, _, _, m⟩ := S.obj; let ⟨_, _, m2⟩ := S.tab; ⟨ne_of_new m hlt, ne_of_new m2 hlt⟩
end
section
variable {w : World} {loose : List Str} {mean : ExcName → Option Value} {mg mb : Str → Option Value}
variable {bl : Led} {rd d l n : Nat} {vs : List Value} {ts : List (Str × Str)} {nm sh : Addr} {i : Nat}
theorem signed_num (R : RB w bl rd d l n vs ts) (tx : Str) (x y : Int) (e : ts[i]? = some (Str.ofString "number", tx)) (C : ∀ (led : Led) (t : Tok), Con w loose mean mg mb 131 9 [.str tx t] led (BackT led fun t1 t2 _ => [.int x t1, .int y t2])) : RCon w loose mean mg mb bl d l nm sh 677 26 [.ref rd] (i) (i + 1) (PairV d x y) := by
  intro led hS
  obtain ⟨_, _, _, _, _, hOhS⟩ := hS.obj
  have hIhS := hS.keep _ R.inst
  have hLhS := hS.keep _ R.list
  have hz := R.size
  have hi : i ≤ 900 := Nat.le_of_lt (Nat.lt_of_lt_of_le (lt_len R e) hz)
  have g0 : (Str.ofString "number" == Str.ofString "sign") = false := by decide +kernel
  unfold Con
  k_fill
  intro dp un gd cn cs a ccd cl outer A₀ base h₀ L m s Q E B F X N T hkf hd hu ret
  refine wpAny_call ?_
  k_dflt (refine' code_def (binds := [("self", Value.ref rd)]) ?k1 ?k2 ?k3 ?k4 ?k5 ?kA ?kF ?kK ?k6 ?k7 ?k8 ?k9 ?kB ?_ ?c2 ?c3 ?c4 ?c5; (case kA => exact rfl); (case kF => exact rfl); (case kK => assumption); (case k1 => k_asm); (case k2 => k_asm); (case k3 => k_asm); (case k4 => k_asm); (case k5 => k_asm); (case k6 => k_is); (case k7 => k_is); (case k8 => ktr_room); (case k9 => first | exact BindsTo.of_eq rfl | exact kp_binds (by k_in) (fun _ => by kernel_rfl)); (case c5 => decide); (case kB => exact locs rfl); (case c2 => exact rfl); (case c3 => exact rfl); (case c4 => exact rfl); k_whole; intro g' L' h' FG' F' N' B' X' T'; (try dsimp only); (try k_lift B'); (try k_fold))
  k_steps
  refine useN (by k_asm) (by k_asm) (by k_asm) (by k_asm) (by k_asm) (by first | exact rfl | assumption) (is_number_a rd d l nm sh _ n _ _ _ _ _ vs (by k_mem) (by k_mem) (by k_mem) hi hz _ (R.pk hS i _ e) (signIs_no g0) (signIs_no g0) _ kindIs_eq) (by ktr_room) (by ktr_units) ?_
  intro t9 h9 tk9 F9 N9
  (try dsimp only)
  (try k_fold)
  k_steps
  refine useN (by k_asm) (by k_asm) (by k_asm) (by k_asm) (by k_asm) (by first | exact rfl | assumption) (skip_sign_no rd d l nm sh _ n _ _ _ _ _ vs (by k_mem) (by k_mem) (by k_mem) (by omega) (by omega) _ (R.pk hS i _ e) _ _ (signIs_no g0)) (by ktr_room) (by ktr_units) ?_
  intro t9 h9 tk9 F9 N9
  (try dsimp only)
  (try k_fold)
  k_steps
  refine useN (by k_asm) (by k_asm) (by k_asm) (by k_asm) (by k_asm) (by first | exact rfl | assumption) (skip_sign_no rd d l nm sh _ n _ _ _ _ _ vs (by k_mem) (by k_mem) (by k_mem) (by omega) (by omega) _ (R.pk hS i _ e) _ _ (signIs_no g0)) (by ktr_room) (by ktr_units) ?_
  intro t9 h9 tk9 F9 N9
  (try dsimp only)
  (try k_fold)
  k_steps
  refine useR R (by k_asm) (by k_asm) (by k_asm) (by k_asm) (by k_asm) (by first | exact rfl | assumption) (take_R R e _ (hS)) (by ktr_room) (by ktr_units) ?_
  intro r9 led9 h9 tk9 F9 N9 S9 sub9 V9 _ _ _ _ _ hOS9 hIS9 hLS9
  (try dsimp only)
  (try k_fold)
  refine TokV.elim V9 fun b d2 at2 u1 u2 u3 u4 u5 u6 eV m1 m2 n1 n2 => ?_
  subst eV
  k_steps
  refine useTN (by k_asm) (by k_asm) (by k_asm) (by k_asm) (by k_asm) (by first | exact rfl | assumption) (C _ _) (by ktr_room) (by ktr_units) ?_
  intro D8 t8 u8 v8 h8 tk8 F8 N8 l8
  (try dsimp only)
  (try k_fold)
  k_steps
  all_goals exact ret _ _ _ _ (by k_asm) (by k_asm) ⟨S9.more (sub_more sub_self), fun p hp hne => .tail _ (sub9 p hp hne), ⟨D8, _, _, rfl, .head _, fx_new S9 l8⟩⟩
theorem signed_neg (R : RB w bl rd d l n vs ts) (tx : Str) (x y : Int) (e : ts[i]? = some (Str.ofString "sign", Str.ofString "-")) (e1 : ts[i + 1]? = some (Str.ofString "number", tx)) (C : ∀ (led : Led) (t : Tok), Con w loose mean mg mb 131 9 [.str tx t] led (BackT led fun t1 t2 _ => [.int x t1, .int y t2])) : RCon w loose mean mg mb bl d l nm sh 677 26 [.ref rd] (i) (i + 1 + 1) (PairV d (-x) y) := by
  intro led hS
  obtain ⟨_, _, _, _, _, hOhS⟩ := hS.obj
  have hIhS := hS.keep _ R.inst
  have hLhS := hS.keep _ R.list
  have hz := R.size
  have hi : i ≤ 900 := Nat.le_of_lt (Nat.lt_of_lt_of_le (lt_len R e) hz)
  have g1 : signIs (some (Str.ofString "sign", Str.ofString "-")) (Str.ofString "+") = false := by decide +kernel
  have g2 : signIs (some (Str.ofString "sign", Str.ofString "-")) (Str.ofString "-") = true := by decide +kernel
  unfold Con
  k_fill
  intro dp un gd cn cs a ccd cl outer A₀ base h₀ L m s Q E B F X N T hkf hd hu ret
  refine wpAny_call ?_
  k_dflt (refine' code_def (binds := [("self", Value.ref rd)]) ?k1 ?k2 ?k3 ?k4 ?k5 ?kA ?kF ?kK ?k6 ?k7 ?k8 ?k9 ?kB ?_ ?c2 ?c3 ?c4 ?c5; (case kA => exact rfl); (case kF => exact rfl); (case kK => assumption); (case k1 => k_asm); (case k2 => k_asm); (case k3 => k_asm); (case k4 => k_asm); (case k5 => k_asm); (case k6 => k_is); (case k7 => k_is); (case k8 => ktr_room); (case k9 => first | exact BindsTo.of_eq rfl | exact kp_binds (by k_in) (fun _ => by kernel_rfl)); (case c5 => decide); (case kB => exact locs rfl); (case c2 => exact rfl); (case c3 => exact rfl); (case c4 => exact rfl); k_whole; intro g' L' h' FG' F' N' B' X' T'; (try dsimp only); (try k_lift B'); (try k_fold))
  k_steps
  refine useN (by k_asm) (by k_asm) (by k_asm) (by k_asm) (by k_asm) (by first | exact rfl | assumption) (is_number_b rd d l nm sh _ n _ _ _ _ _ vs (by k_mem) (by k_mem) (by k_mem) hi hz _ (R.pk hS i _ e) _ (R.pk hS (i + 1) _ e1) g1 g2 kindIs_eq) (by ktr_room) (by ktr_units) ?_
  intro t9 h9 tk9 F9 N9
  (try dsimp only)
  (try k_fold)
  k_steps
  refine useR R (by k_asm) (by k_asm) (by k_asm) (by k_asm) (by k_asm) (by first | exact rfl | assumption) (skip_sign_R R e _ _ g2 _ (hS)) (by ktr_room) (by ktr_units) ?_
  intro r9 led9 h9 tk9 F9 N9 S9 sub9 V9 _ _ _ _ _ hOS9 hIS9 hLS9
  (try dsimp only)
  (try k_fold)
  subst V9
  k_steps
  refine useR R (by k_asm) (by k_asm) (by k_asm) (by k_asm) (by k_asm) (by first | exact rfl | assumption) (take_R R e1 _ (S9)) (by ktr_room) (by ktr_units) ?_
  intro r8 led8 h8 tk8 F8 N8 S8 sub8 V8 _ _ _ _ _ hOS8 hIS8 hLS8
  (try dsimp only)
  (try k_fold)
  refine TokV.elim V8 fun b d2 at2 u1 u2 u3 u4 u5 u6 eV m1 m2 n1 n2 => ?_
  subst eV
  k_steps
  refine useTN (by k_asm) (by k_asm) (by k_asm) (by k_asm) (by k_asm) (by first | exact rfl | assumption) (C _ _) (by ktr_room) (by ktr_units) ?_
  intro D7 t7 u7 v7 h7 tk7 F7 N7 l7
  (try dsimp only)
  (try k_fold)
  k_steps
  refine useTN (by k_asm) (by k_asm) (by k_asm) (by k_asm) (by k_asm) (by first | exact rfl | assumption) (negated_ok D7 x y _ _ (by k_mem)) (by ktr_room) (by ktr_units) ?_
  intro D6 t6 u6 v6 h6 tk6 F6 N6 l6
  (try dsimp only)
  (try k_fold)
  k_steps
  have sub7 : ∀ p ∈ led, Fx d p.1 → p ∈ led8 := fun p hp hne => sub8 p (sub9 p hp hne) hne
  all_goals exact ret _ _ _ _ (by k_asm) (by k_asm) ⟨S8.more (sub_more (sub_more sub_self)), fun p hp hne => .tail _ (.tail _ (sub7 p hp hne)), ⟨D6, _, _, rfl, .head _, fx_new (S8.more (sub_more sub_self)) l6⟩⟩
theorem read_ref_A (R : RB w bl rd d l n vs ts) (fn : Value) (e : ts[i]? = some (Str.ofString "word", Str.ofString "A")) (o1 : Option (Str × Str)) (e1 : ts[i + 1]? = o1) (g1 : kindIs o1 (Str.ofString "word") = false) (g2 : signIs o1 (Str.ofString "(") = false) : RCon w loose mean mg mb bl d l nm sh 376 30 [.ref rd, fn] (i) (i + 1) (Val d (.tuple [.str (Str.ofString "ref"), .str (Str.ofString "A"), .tuple [], .tuple [], .none])) := by
  intro led hS
  obtain ⟨_, _, _, _, _, hOhS⟩ := hS.obj
  have hIhS := hS.keep _ R.inst
  have hLhS := hS.keep _ R.list
  have hz := R.size
  have hi : i + 1 ≤ 900 := Nat.lt_of_lt_of_le (lt_len R e) hz
  unfold Con
  k_fill
  intro dp un gd cn cs a ccd cl outer A₀ base h₀ L m s Q E B F X N T hkf hd hu ret
  refine wpAny_call ?_
  k_dflt (refine' code_def (binds := [("reader", Value.ref rd), ("read_expr", fn)]) ?k1 ?k2 ?k3 ?k4 ?k5 ?kA ?kF ?kK ?k6 ?k7 ?k8 ?k9 ?kB ?_ ?c2 ?c3 ?c4 ?c5; (case kA => exact rfl); (case kF => exact rfl); (case kK => assumption); (case k1 => k_asm); (case k2 => k_asm); (case k3 => k_asm); (case k4 => k_asm); (case k5 => k_asm); (case k6 => k_is); (case k7 => k_is); (case k8 => ktr_room); (case k9 => first | exact BindsTo.of_eq rfl | exact kp_binds (by k_in) (fun _ => by kernel_rfl)); (case c5 => decide); (case kB => exact locs rfl); (case c2 => exact rfl); (case c3 => exact rfl); (case c4 => exact rfl); k_whole; intro g' L' h' FG' F' N' B' X' T'; (try dsimp only); (try k_lift B'); (try k_fold))
  k_steps
  refine useR R (by k_asm) (by k_asm) (by k_asm) (by k_asm) (by k_asm) (by first | exact rfl | assumption) (name_R R e _ (hS)) (by ktr_room) (by ktr_units) ?_
  intro r9 led9 h9 tk9 F9 N9 S9 sub9 V9 _ _ _ _ _ hOS9 hIS9 hLS9
  (try dsimp only)
  (try k_fold)
  obtain ⟨tt9, rfl⟩ := V9
  k_steps
  refine whl_turn (k := 0) (by passes_own) ?_
  k_steps
  refine useN (by k_asm) (by k_asm) (by k_asm) (by k_asm) (by k_asm) (by first | exact rfl | assumption) (one_of_no rd d l nm sh _ n _ _ _ _ _ vs (by k_mem) (by k_mem) (by k_mem) (by omega) (by omega) o1 ((R.pk S9 (i + 1) _ e1).mono (by first | exact sub_self | exact sub_more sub_self | exact sub_more (sub_more sub_self) | exact sub_more (sub_more (sub_more sub_self)))) _ g1) (by ktr_room) (by ktr_units) ?_
  intro t9 h9 tk9 F9 N9
  (try dsimp only)
  (try k_fold)
  k_steps
  refine useN (by k_asm) (by k_asm) (by k_asm) (by k_asm) (by k_asm) (by first | exact rfl | assumption) (is_sign_ok0 rd d l nm sh _ n _ _ _ _ _ vs (by k_mem) (by k_mem) (by k_mem) _ _ o1 _ (by omega) (by omega) ((R.pk S9 (i + 1) _ e1).mono (by first | exact sub_self | exact sub_more sub_self | exact sub_more (sub_more sub_self) | exact sub_more (sub_more (sub_more sub_self)))) g2) (by ktr_room) (by ktr_units) ?_
  intro t9 h9 tk9 F9 N9
  (try dsimp only)
  (try k_fold)
  k_steps
  refine useN (by k_asm) (by k_asm) (by k_asm) (by k_asm) (by k_asm) (by first | exact rfl | assumption) (is_part_next_no rd d l nm sh _ n _ _ _ _ _ vs (by k_mem) (by k_mem) (by k_mem) (by omega) (by omega) o1 ((R.pk S9 (i + 1) _ e1).mono (by first | exact sub_self | exact sub_more sub_self | exact sub_more (sub_more sub_self) | exact sub_more (sub_more (sub_more sub_self)))) g2) (by ktr_room) (by ktr_units) ?_
  intro t9 h9 tk9 F9 N9
  (try dsimp only)
  (try k_fold)
  k_steps
  all_goals exact ret _ _ _ _ (by k_asm) (by k_asm) ⟨S9.more (sub_more (sub_more (sub_more (sub_more sub_self)))), fun p hp hne => .tail _ (.tail _ (.tail _ (.tail _ (sub9 p hp hne)))), Val.tup (by k_mem) (by first | exact fx_new S9 (by assumption) | exact fx_new S9 (ktn_ltOf (by assumption)) | exact fx_new S9 (ktn_ltOf (And.right (by assumption))) | exact fx_new S9 (ktn_ltOf (And.right (And.right (by assumption)))) | exact fx_new S9 (ktn_ltOf (And.right (And.right (And.right (by assumption))))) | exact fx_new S9 (ktn_ltOf (And.right (And.right (And.right (And.right (by assumption)))))) | exact fx_new S9 (ktn_ltOf (And.right (And.right (And.right (And.right (And.right (by assumption)))))))) (.cons .str (.cons .str (.cons (Val.tup (by k_mem) (by first | exact fx_new S9 (by assumption) | exact fx_new S9 (ktn_ltOf (by assumption)) | exact fx_new S9 (ktn_ltOf (And.right (by assumption))) | exact fx_new S9 (ktn_ltOf (And.right (And.right (by assumption)))) | exact fx_new S9 (ktn_ltOf (And.right (And.right (And.right (by assumption))))) | exact fx_new S9 (ktn_ltOf (And.right (And.right (And.right (And.right (by assumption)))))) | exact fx_new S9 (ktn_ltOf (And.right (And.right (And.right (And.right (And.right (by assumption)))))))) .nil) (.cons (Val.tup (by k_mem) (by first | exact fx_new S9 (by assumption) | exact fx_new S9 (ktn_ltOf (by assumption)) | exact fx_new S9 (ktn_ltOf (And.right (by assumption))) | exact fx_new S9 (ktn_ltOf (And.right (And.right (by assumption)))) | exact fx_new S9 (ktn_ltOf (And.right (And.right (And.right (by assumption))))) | exact fx_new S9 (ktn_ltOf (And.right (And.right (And.right (And.right (by assumption)))))) | exact fx_new S9 (ktn_ltOf (And.right (And.right (And.right (And.right (And.right (by assumption)))))))) .nil) (.cons .none .nil)))))⟩
end
end
theorem flush_35 : True := by
  w_top off
  first | walk1 | trivial
section
open PySem PySem.W PyProof.Rows PySem.Calls
set_option Elab.async false
set_option maxRecDepth 100000
set_option maxHeartbeats 0
section
variable {w : World} {loose : List Str} {mean : ExcName → Option Value} {mg mb : Str → Option Value} {led : Led}
end
section
variable {M : Model} {A : Around} {E : Value → Shared → Prop} {s : Shared} {h₀ : Heap} {L a c : Addr} {m mg mb : Str → Option Value} {cn : Str} {cs : Scope} {ccd : Value} {cl : List (Str × Addr)} {led : Led}
  {p : Program} {loose : List Str} {mean : ExcName → Option Value} {params : Arguments} {body : PySem.Expr} {scope : Scope} {pos : Pos} {clos : List (Str × Addr)}
theorem codeHd_primary {w : World} {h : Heap} (X : (hk.heap_1 w.params).In h) : CodeHd h 484 480 := by
  have e := X 484 _ rfl
  exact ⟨_, _, _, _, _, _, _, _, _, e, rfl, rfl, rfl, rfl, rfl, rfl, rfl, rfl, by decide⟩
theorem lam_step {Q : Value → Shared → Prop} (F : Fr h₀ L s.heap m) (N : News h₀ L s.heap led) (T : Top p loose mean mg mb h₀) (C : CodeHd h₀ c 480) (hcd : ccd = .ref c) (hd0 : defaultsOf params (envX cn cs L a ccd cl) = ([], [])) (hcl : closureFor scope (envX cn cs L a ccd cl) = pure clos)
    (hl : pos.line = 372) (hc : pos.col = 36) (htab : TabAt led)
    (h : ∀ f h' tk led', Fr h₀ L h' m → News h₀ L h' led' → (∀ p ∈ led, p.1 ≠ 480 → p ∈ led') → TabAt led' → Q (.ref f) { s with heap := h', toks := tk }) :
    wpAny M A (eval (.Lambda params body scope pos) (envX cn cs L a ccd cl)) Q E s := by
  refine kla_eval hd0 ?_
  obtain ⟨ps, ok, hm⟩ := htab
  rcases ok with rfl | ⟨c', rfl⟩
  · have N2 : News h₀ L s.heap ((480, tabObj #[]) :: led.filter (fun p => p.1 != 480)) := fun p hp => by
      rcases List.mem_cons.mp hp with rfl | hp
      · exact N _ hm
      · exact N _ (List.mem_filter.mp hp).1
    refine kla_nest F N2 T C hcd (UpdF.head rest_ne) True.intro rfl hcl ?_
    intro f c' oc vs t ctv h' tk F' N' _ _ _ _
    refine h f h' tk _ F' N' (fun p hp hne => .tail _ (.tail _ (.tail _ (mem_rest hp hne)))) ⟨_, .inr ⟨c', ?_⟩, .tail _ (.tail _ (.head _))⟩
    rw [hl, hc]
    rfl
  · refine kla_hit F N T C hcd hm (by simp [TriplesOk, rawInt]) (c' := c') ?_ hcl ?_
    · simp [codeAmong, rawInt, hl, hc]
    · intro f ctv h' tk F' N' _
      exact h f h' tk _ F' N' (fun p hp _ => .tail _ hp) ⟨_, .inr ⟨c', rfl⟩, .tail _ hm⟩
end
section
variable {w : World} {loose : List Str} {mean : ExcName → Option Value} {mg mb : Str → Option Value}
variable {bl : Led} {rd d l n : Nat} {vs : List Value} {ts : List (Str × Str)} {nm sh : Addr} {i : Nat}
theorem read_operand_num (R : RB w bl rd d l n vs ts) (fn : Value) (j : Nat) (x y : Int) (C1 : ∀ led, St w bl led d l nm sh i → Con w loose mean mg mb 670 10 [.ref rd] led (Back led fun _ => .bool true)) (C2 : RCon w loose mean mg mb bl d l nm sh 677 26 [.ref rd] i j (PairV d x y)) : RCon w loose mean mg mb bl d l nm sh 397 32 [.ref rd, fn] (i) (j) (NumV d x y) := by
  intro led hS
  obtain ⟨_, _, _, _, _, hOhS⟩ := hS.obj
  have hIhS := hS.keep _ R.inst
  have hLhS := hS.keep _ R.list
  have hz := R.size
  unfold Con
  k_fill
  intro dp un gd cn cs a ccd cl outer A₀ base h₀ L m s Q E B F X N T hkf hd hu ret
  refine wpAny_call ?_
  k_dflt (refine' code_def (binds := [("reader", Value.ref rd), ("read_expr", fn)]) ?k1 ?k2 ?k3 ?k4 ?k5 ?kA ?kF ?kK ?k6 ?k7 ?k8 ?k9 ?kB ?_ ?c2 ?c3 ?c4 ?c5; (case kA => exact rfl); (case kF => exact rfl); (case kK => assumption); (case k1 => k_asm); (case k2 => k_asm); (case k3 => k_asm); (case k4 => k_asm); (case k5 => k_asm); (case k6 => k_is); (case k7 => k_is); (case k8 => ktr_room); (case k9 => first | exact BindsTo.of_eq rfl | exact kp_binds (by k_in) (fun _ => by kernel_rfl)); (case c5 => decide); (case kB => exact locs rfl); (case c2 => exact rfl); (case c3 => exact rfl); (case c4 => exact rfl); k_whole; intro g' L' h' FG' F' N' B' X' T'; (try dsimp only); (try k_lift B'); (try k_fold))
  k_steps
  refine useN (by k_asm) (by k_asm) (by k_asm) (by k_asm) (by k_asm) (by first | exact rfl | assumption) (C1 _ hS) (by ktr_room) (by ktr_units) ?_
  intro t9 h9 tk9 F9 N9
  (try dsimp only)
  (try k_fold)
  k_steps
  refine useR R (by k_asm) (by k_asm) (by k_asm) (by k_asm) (by k_asm) (by first | exact rfl | assumption) (C2 _ (hS)) (by ktr_room) (by ktr_units) ?_
  intro r9 led9 h9 tk9 F9 N9 S9 sub9 V9 _ _ _ _ _ hOS9 hIS9 hLS9
  (try dsimp only)
  (try k_fold)
  obtain ⟨a2, q1, q2, rfl, m2, n2⟩ := V9
  k_steps
  all_goals exact ret _ _ _ _ (by k_asm) (by k_asm) ⟨S9.more (sub_more sub_self), fun p hp hne => .tail _ (sub9 p hp hne), ⟨_, _, _, _, _, rfl, .head _, .tail _ m2, (by first | exact fx_new S9 (by assumption) | exact fx_new S9 (ktn_ltOf (by assumption)) | exact fx_new S9 (ktn_ltOf (And.right (by assumption))) | exact fx_new S9 (ktn_ltOf (And.right (And.right (by assumption)))) | exact fx_new S9 (ktn_ltOf (And.right (And.right (And.right (by assumption))))) | exact fx_new S9 (ktn_ltOf (And.right (And.right (And.right (And.right (by assumption)))))) | exact fx_new S9 (ktn_ltOf (And.right (And.right (And.right (And.right (And.right (by assumption)))))))), n2⟩⟩
theorem read_operand_A (R : RB w bl rd d l n vs ts) (fn : Value) (e : ts[i]? = some (Str.ofString "word", Str.ofString "A")) (o1 : Option (Str × Str)) (e1 : ts[i + 1]? = o1) (g1 : kindIs o1 (Str.ofString "word") = false) (g2 : signIs o1 (Str.ofString "(") = false) : RCon w loose mean mg mb bl d l nm sh 397 32 [.ref rd, fn] (i) (i + 1) (Val d (.tuple [.str (Str.ofString "ref"), .str (Str.ofString "A"), .tuple [], .tuple [], .none])) := by
  intro led hS
  obtain ⟨_, _, _, _, _, hOhS⟩ := hS.obj
  have hIhS := hS.keep _ R.inst
  have hLhS := hS.keep _ R.list
  have hz := R.size
  have hi : i + 1 ≤ 900 := Nat.lt_of_lt_of_le (lt_len R e) hz
  have g0 : (Str.ofString "word" == Str.ofString "sign") = false := by decide +kernel
  have P0 := R.pk hS i _ e
  have P1 := P0
  obtain ⟨_, hx, b, d2, at2, u1, u2, u3, u4, u5, u6, rfl, m1, m2⟩ := P1
  unfold Con
  k_fill
  intro dp un gd cn cs a ccd cl outer A₀ base h₀ L m s Q E B F X N T hkf hd hu ret
  refine wpAny_call ?_
  k_dflt (refine' code_def (binds := [("reader", Value.ref rd), ("read_expr", fn)]) ?k1 ?k2 ?k3 ?k4 ?k5 ?kA ?kF ?kK ?k6 ?k7 ?k8 ?k9 ?kB ?_ ?c2 ?c3 ?c4 ?c5; (case kA => exact rfl); (case kF => exact rfl); (case kK => assumption); (case k1 => k_asm); (case k2 => k_asm); (case k3 => k_asm); (case k4 => k_asm); (case k5 => k_asm); (case k6 => k_is); (case k7 => k_is); (case k8 => ktr_room); (case k9 => first | exact BindsTo.of_eq rfl | exact kp_binds (by k_in) (fun _ => by kernel_rfl)); (case c5 => decide); (case kB => exact locs rfl); (case c2 => exact rfl); (case c3 => exact rfl); (case c4 => exact rfl); k_whole; intro g' L' h' FG' F' N' B' X' T'; (try dsimp only); (try k_lift B'); (try k_fold))
  k_steps
  refine useN (by k_asm) (by k_asm) (by k_asm) (by k_asm) (by k_asm) (by first | exact rfl | assumption) (is_number_a rd d l nm sh _ n _ _ _ _ _ vs (by k_mem) (by k_mem) (by k_mem) (by omega) hz _ P0 (signIs_no g0) (signIs_no g0) false (by decide +kernel)) (by ktr_room) (by ktr_units) ?_
  intro t9 h9 tk9 F9 N9
  (try dsimp only)
  (try k_fold)
  k_steps
  refine useN (by k_asm) (by k_asm) (by k_asm) (by k_asm) (by k_asm) (by first | exact rfl | assumption) (is_kind_ok0 rd d l nm sh _ n _ _ _ _ _ vs (by k_mem) (by k_mem) (by k_mem) _ _ _ false (by omega) (by omega) P0 (by decide +kernel)) (by ktr_room) (by ktr_units) ?_
  intro t9 h9 tk9 F9 N9
  (try dsimp only)
  (try k_fold)
  k_steps
  refine useN (by k_asm) (by k_asm) (by k_asm) (by k_asm) (by k_asm) (by first | exact rfl | assumption) (skip_no_ALL rd d l nm sh _ n _ _ _ _ _ vs (by k_mem) (by k_mem) (by k_mem) (by omega) (by omega) _ P0 _ b d2 at2 _ _ u1 u2 u3 u4 u5 u6 hx (by k_mem) (by k_mem) (by decide +kernel) (by decide +kernel)) (by ktr_room) (by ktr_units) ?_
  intro t9 h9 tk9 F9 N9
  (try dsimp only)
  (try k_fold)
  k_steps
  refine useN (by k_asm) (by k_asm) (by k_asm) (by k_asm) (by k_asm) (by first | exact rfl | assumption) (read_figure_no rd d l nm sh _ n _ _ _ _ _ vs (by k_mem) (by k_mem) (by k_mem) (by omega) hz b d2 at2 _ _ u1 u2 u3 u4 u5 u6 hx (by k_mem) (by k_mem) _ P0 (by decide +kernel) rfl) (by ktr_room) (by ktr_units) ?_
  intro t9 h9 tk9 F9 N9
  (try dsimp only)
  (try k_fold)
  k_steps
  refine useR R (by k_asm) (by k_asm) (by k_asm) (by k_asm) (by k_asm) (by first | exact rfl | assumption) (read_ref_A R fn e o1 e1 g1 g2 _ (hS)) (by ktr_room) (by ktr_units) ?_
  intro r9 led9 h9 tk9 F9 N9 S9 sub9 V9 _ _ _ _ _ hOS9 hIS9 hLS9
  (try dsimp only)
  (try k_fold)
  k_steps
  all_goals exact ret _ _ _ _ (by k_asm) (by k_asm) ⟨S9.more (sub_self), fun p hp hne => sub9 p hp hne, V9⟩
theorem read_primary_ok (R : RB w bl rd d l n vs ts) (k u j : Nat) (V : Led → Value → Prop) (hV : Stable d V) (o : Option (Str × Str)) (e : ts[i]? = o) (g1 : among o [Str.ofString "+", Str.ofString "-"] = Str.ofString "") (g2 : signIs o (Str.ofString "(") = false) (hj : i < 900) (C : ∀ fn, RCon w loose mean mg mb bl d l nm sh 397 32 [.ref rd, fn] i j V) : RCon w loose mean mg mb bl d l nm sh 485 36 [.ref rd, .int (k : Int) u] (i) (j) (V) := by
  intro led hS
  obtain ⟨_, _, _, _, _, hOhS⟩ := hS.obj
  have hIhS := hS.keep _ R.inst
  have hLhS := hS.keep _ R.list
  have hz := R.size
  unfold Con
  k_fill
  intro dp un gd cn cs a ccd cl outer A₀ base h₀ L m s Q E B F X N T hkf hd hu ret
  refine wpAny_call ?_
  k_dflt (refine' code_defC (binds := [("reader", Value.ref rd), ("depth", Value.int (k : Int) u)]) ?k1 ?k2 ?k3 ?k4 ?k5 ?kA ?kF ?kK ?k6 ?k7 ?k8 ?k9 ?kB ?kD ?_ ?c2 ?c3 ?c4; (case kA => exact rfl); (case kF => exact rfl); (case kK => assumption); (case k1 => k_asm); (case k2 => k_asm); (case k3 => k_asm); (case k4 => k_asm); (case k5 => k_asm); (case k6 => k_is); (case k7 => k_is); (case k8 => ktr_room); (case k9 => first | exact BindsTo.of_eq rfl | exact kp_binds (by k_in) (fun _ => by kernel_rfl)); (case kB => exact rfl); (case kD => decide +kernel); (case c2 => exact rfl); (case c3 => exact rfl); (case c4 => exact rfl); k_whole; intro g' L' h' tk' cells' FG' F' N' Y' B' X' T' l1; (try k_lt l1); k_cells Y'; (try simp only [List.cons_append, List.nil_append] at N'); (try dsimp only); (try k_lift B'); (try k_fold))
  k_steps
  refine useN (by k_asm) (by k_asm) (by k_asm) (by k_asm) (by k_asm) (by first | exact rfl | assumption) (sign_among_ok2 rd d l nm sh _ n _ _ _ _ _ vs (by k_mem) (by k_mem) (by k_mem) _ _ _ _ _ (by k_mem) hz o ((R.pk hS i _ e).mono (by first | exact sub_self | exact sub_more sub_self | exact sub_more (sub_more sub_self) | exact sub_more (sub_more (sub_more sub_self)))) (by omega) _ g1) (by ktr_room) (by ktr_units) ?_
  intro t9 h9 tk9 F9 N9
  (try dsimp only)
  (try k_fold)
  k_steps
  refine useN (by k_asm) (by k_asm) (by k_asm) (by k_asm) (by k_asm) (by first | exact rfl | assumption) (skip_sign_no rd d l nm sh _ n _ _ _ _ _ vs (by k_mem) (by k_mem) (by k_mem) (by omega) (by omega) o ((R.pk hS i _ e).mono (by first | exact sub_self | exact sub_more sub_self | exact sub_more (sub_more sub_self) | exact sub_more (sub_more (sub_more sub_self)))) _ _ g2) (by ktr_room) (by ktr_units) ?_
  intro t9 h9 tk9 F9 N9
  (try dsimp only)
  (try k_fold)
  k_steps
  refine lam_step (by k_asm) (by k_asm) (by k_asm) (codeHd_primary (by k_asm)) rfl rfl rfl rfl rfl (hS.more (by first | exact sub_self | exact sub_more sub_self | exact sub_more (sub_more sub_self) | exact sub_more (sub_more (sub_more sub_self)))).tab ?_
  intro f7 h7 tk7 led7 F7 N7 sub7 tab7
  have S7 : St w bl led7 d l nm sh i := ⟨fun p hp => sub7 p (by first | exact hS.keep p hp | exact .tail _ (hS.keep p hp) | exact .tail _ (.tail _ (hS.keep p hp)) | exact .tail _ (.tail _ (.tail _ (hS.keep p hp)))) (R.off p hp).2, let ⟨t1, t2, t3, t4, t5, m⟩ := hS.obj; ⟨t1, t2, t3, t4, t5, sub7 _ (by first | exact m | exact .tail _ (m) | exact .tail _ (.tail _ (m)) | exact .tail _ (.tail _ (.tail _ (m)))) R.dt⟩, tab7⟩
  k_steps
  refine useR R (by k_asm) (by k_asm) (by k_asm) (by k_asm) (by k_asm) (by first | exact rfl | assumption) (C _ _ (S7)) (by ktr_room) (by ktr_units) ?_
  intro r9 led9 h9 tk9 F9 N9 S9 sub9 V9 _ _ _ _ _ hOS9 hIS9 hLS9
  (try dsimp only)
  (try k_fold)
  k_steps
  all_goals exact ret _ _ _ _ (by k_asm) (by k_asm) ⟨S9, fun p hp hne => sub9 p (sub7 p (by first | exact hp | exact .tail _ (hp) | exact .tail _ (.tail _ (hp)) | exact .tail _ (.tail _ (.tail _ (hp)))) hne.2) hne, V9⟩
end
end
theorem flush_36 : True := by
  w_top off
  first | walk1 | trivial
section
open PySem PySem.W PyProof.Rows PySem.Calls
set_option Elab.async false
set_option maxRecDepth 100000
set_option maxHeartbeats 0
section
variable {w : World} {loose : List Str} {mean : ExcName → Option Value} {mg mb : Str → Option Value} {led : Led}
end
theorem RCon.mono {w : World} {loose : List Str} {mean : ExcName → Option Value} {mg mb : Str → Option Value} {bl : Led} {d l nm sh f dep : Nat} {args : List Value} {i j : Nat} {V V' : Led → Value → Prop} (C : RCon w loose mean mg mb bl d l nm sh f dep args i j V) (h : ∀ led v, V led v → V' led v) : RCon w loose mean mg mb bl d l nm sh f dep args i j V' :=
  fun led hS => con_post (C led hS) fun _ _ ⟨a, b, c⟩ => ⟨a, b, h _ _ c⟩
theorem among_no1 {o : Option (Str × Str)} {x : Str} (h : ∀ kw, o = some kw → ([x].any fun z => z == kw.2) = false) : among o [x] = Str.ofString "" := by
  cases o with
  | none => rfl
  | some kw =>
    unfold among
    simp only [h kw rfl, Bool.and_false]
    rfl
section
variable {w : World} {loose : List Str} {mean : ExcName → Option Value} {mg mb : Str → Option Value}
variable {bl : Led} {rd d l n : Nat} {vs : List Value} {ts : List (Str × Str)} {nm sh : Addr} {i : Nat}
theorem read_power_ok (R : RB w bl rd d l n vs ts) (k u j : Nat) (V : Led → Value → Prop) (hV : Stable d V) (o2 : Option (Str × Str)) (e2 : ts[j]? = o2) (g2 : ∀ kw, o2 = some kw → ([Str.ofString "**"].any fun z => z == kw.2) = false) (hj : j ≤ 900) (C : RCon w loose mean mg mb bl d l nm sh 485 36 [.ref rd, .int (k : Int) u] i j V) : RCon w loose mean mg mb bl d l nm sh 478 40 [.ref rd, .int (k : Int) u] (i) (j) (V) := by
  intro led hS
  obtain ⟨_, _, _, _, _, hOhS⟩ := hS.obj
  have hIhS := hS.keep _ R.inst
  have hLhS := hS.keep _ R.list
  have hz := R.size
  unfold Con
  k_fill
  intro dp un gd cn cs a ccd cl outer A₀ base h₀ L m s Q E B F X N T hkf hd hu ret
  refine wpAny_call ?_
  k_dflt (refine' code_def (binds := [("reader", Value.ref rd), ("depth", Value.int (k : Int) u)]) ?k1 ?k2 ?k3 ?k4 ?k5 ?kA ?kF ?kK ?k6 ?k7 ?k8 ?k9 ?kB ?_ ?c2 ?c3 ?c4 ?c5; (case kA => exact rfl); (case kF => exact rfl); (case kK => assumption); (case k1 => k_asm); (case k2 => k_asm); (case k3 => k_asm); (case k4 => k_asm); (case k5 => k_asm); (case k6 => k_is); (case k7 => k_is); (case k8 => ktr_room); (case k9 => first | exact BindsTo.of_eq rfl | exact kp_binds (by k_in) (fun _ => by kernel_rfl)); (case c5 => decide); (case kB => exact locs rfl); (case c2 => exact rfl); (case c3 => exact rfl); (case c4 => exact rfl); k_whole; intro g' L' h' FG' F' N' B' X' T'; (try dsimp only); (try k_lift B'); (try k_fold))
  k_steps
  refine useR R (by k_asm) (by k_asm) (by k_asm) (by k_asm) (by k_asm) (by first | exact rfl | assumption) (C _ (hS)) (by ktr_room) (by ktr_units) ?_
  intro r9 led9 h9 tk9 F9 N9 S9 sub9 V9 _ _ _ _ _ hOS9 hIS9 hLS9
  (try dsimp only)
  (try k_fold)
  k_steps
  refine whl_turn (k := 0) (by passes_own) ?_
  k_steps
  refine useN (by k_asm) (by k_asm) (by k_asm) (by k_asm) (by k_asm) (by first | exact rfl | assumption) (sign_among_ok1 rd d l nm sh _ n _ _ _ _ _ vs (by k_mem) (by k_mem) (by k_mem) _ _ _ (by k_mem) hz o2 ((R.pk S9 j _ e2).mono (by first | exact sub_self | exact sub_more sub_self | exact sub_more (sub_more sub_self) | exact sub_more (sub_more (sub_more sub_self)))) (by omega) (among_no1 g2) g2) (by ktr_room) (by ktr_units) ?_
  intro t9 h9 tk9 F9 N9
  (try dsimp only)
  (try k_fold)
  k_steps
  all_goals exact ret _ _ _ _ (by k_asm) (by k_asm) ⟨S9.more (sub_more sub_self), fun p hp hne => .tail _ (sub9 p hp hne), hV _ _ _ (fun p hp _ => (sub_more sub_self) p hp) V9⟩
theorem read_factor_ok (R : RB w bl rd d l n vs ts) (k u j : Nat) (V : Led → Value → Prop) (hV : Stable d V) (o : Option (Str × Str)) (e : ts[i]? = o) (g1 : among o [Str.ofString "+", Str.ofString "-"] = Str.ofString "") (hi : i ≤ 900) (C : RCon w loose mean mg mb bl d l nm sh 478 40 [.ref rd, .int (k : Int) u] i j V) : RCon w loose mean mg mb bl d l nm sh 464 44 [.ref rd, .int (k : Int) u] (i) (j) (V) := by
  intro led hS
  obtain ⟨_, _, _, _, _, hOhS⟩ := hS.obj
  have hIhS := hS.keep _ R.inst
  have hLhS := hS.keep _ R.list
  have hz := R.size
  unfold Con
  k_fill
  intro dp un gd cn cs a ccd cl outer A₀ base h₀ L m s Q E B F X N T hkf hd hu ret
  refine wpAny_call ?_
  k_dflt (refine' code_def (binds := [("reader", Value.ref rd), ("depth", Value.int (k : Int) u)]) ?k1 ?k2 ?k3 ?k4 ?k5 ?kA ?kF ?kK ?k6 ?k7 ?k8 ?k9 ?kB ?_ ?c2 ?c3 ?c4 ?c5; (case kA => exact rfl); (case kF => exact rfl); (case kK => assumption); (case k1 => k_asm); (case k2 => k_asm); (case k3 => k_asm); (case k4 => k_asm); (case k5 => k_asm); (case k6 => k_is); (case k7 => k_is); (case k8 => ktr_room); (case k9 => first | exact BindsTo.of_eq rfl | exact kp_binds (by k_in) (fun _ => by kernel_rfl)); (case c5 => decide); (case kB => exact locs rfl); (case c2 => exact rfl); (case c3 => exact rfl); (case c4 => exact rfl); k_whole; intro g' L' h' FG' F' N' B' X' T'; (try dsimp only); (try k_lift B'); (try k_fold))
  k_steps
  refine useN (by k_asm) (by k_asm) (by k_asm) (by k_asm) (by k_asm) (by first | exact rfl | assumption) (sign_among_ok2 rd d l nm sh _ n _ _ _ _ _ vs (by k_mem) (by k_mem) (by k_mem) _ _ _ _ _ (by k_mem) hz o ((R.pk hS i _ e).mono (by first | exact sub_self | exact sub_more sub_self | exact sub_more (sub_more sub_self) | exact sub_more (sub_more (sub_more sub_self)))) (by omega) _ g1) (by ktr_room) (by ktr_units) ?_
  intro t9 h9 tk9 F9 N9
  (try dsimp only)
  (try k_fold)
  k_steps
  refine useR R (by k_asm) (by k_asm) (by k_asm) (by k_asm) (by k_asm) (by first | exact rfl | assumption) (C _ (hS.more (by first | exact sub_self | exact sub_more sub_self | exact sub_more (sub_more sub_self) | exact sub_more (sub_more (sub_more sub_self))))) (by ktr_room) (by ktr_units) ?_
  intro r9 led9 h9 tk9 F9 N9 S9 sub9 V9 _ _ _ _ _ hOS9 hIS9 hLS9
  (try dsimp only)
  (try k_fold)
  k_steps
  all_goals exact ret _ _ _ _ (by k_asm) (by k_asm) ⟨S9, fun p hp hne => sub9 p (by first | exact hp | exact .tail _ (hp) | exact .tail _ (.tail _ (hp)) | exact .tail _ (.tail _ (.tail _ (hp)))) hne, V9⟩
theorem read_factor_neg (R : RB w bl rd d l n vs ts) (k u : Nat) (tx gw : Str) (x y : Int) (e : ts[i]? = some (Str.ofString "sign", Str.ofString "-")) (e1 : ts[i + 1]? = some (Str.ofString "number", tx)) (e2 : ts[i + 1 + 1]? = some (Str.ofString "sign", gw)) (g2 : (gw != Str.ofString "**") = true) (C : RCon w loose mean mg mb bl d l nm sh 478 40 [.ref rd, .int (k : Int) u] (i + 1) (i + 1 + 1) (NumV d x y)) : RCon w loose mean mg mb bl d l nm sh 464 44 [.ref rd, .int (k : Int) u] (i) (i + 1 + 1) (NumV d (-x) y) := by
  intro led hS
  obtain ⟨_, _, _, _, _, hOhS⟩ := hS.obj
  have hIhS := hS.keep _ R.inst
  have hLhS := hS.keep _ R.list
  have hz := R.size
  have hi : i + 1 + 1 ≤ 900 := Nat.le_of_lt (Nat.lt_of_lt_of_le (lt_len R e2) hz)
  have g1 : among (some (Str.ofString "sign", Str.ofString "-")) [Str.ofString "+", Str.ofString "-"] = Str.ofString "-" := by decide +kernel
  have gA : (Str.ofString "number" != Str.ofString "number") = false := by decide +kernel
  have gB : (Str.ofString "sign" != Str.ofString "sign") = false := by decide +kernel
  unfold Con
  k_fill
  intro dp un gd cn cs a ccd cl outer A₀ base h₀ L m s Q E B F X N T hkf hd hu ret
  refine wpAny_call ?_
  k_dflt (refine' code_def (binds := [("reader", Value.ref rd), ("depth", Value.int (k : Int) u)]) ?k1 ?k2 ?k3 ?k4 ?k5 ?kA ?kF ?kK ?k6 ?k7 ?k8 ?k9 ?kB ?_ ?c2 ?c3 ?c4 ?c5; (case kA => exact rfl); (case kF => exact rfl); (case kK => assumption); (case k1 => k_asm); (case k2 => k_asm); (case k3 => k_asm); (case k4 => k_asm); (case k5 => k_asm); (case k6 => k_is); (case k7 => k_is); (case k8 => ktr_room); (case k9 => first | exact BindsTo.of_eq rfl | exact kp_binds (by k_in) (fun _ => by kernel_rfl)); (case c5 => decide); (case kB => exact locs rfl); (case c2 => exact rfl); (case c3 => exact rfl); (case c4 => exact rfl); k_whole; intro g' L' h' FG' F' N' B' X' T'; (try dsimp only); (try k_lift B'); (try k_fold))
  k_steps
  refine useN (by k_asm) (by k_asm) (by k_asm) (by k_asm) (by k_asm) (by first | exact rfl | assumption) (sign_among_ok2 rd d l nm sh _ n _ _ _ _ _ vs (by k_mem) (by k_mem) (by k_mem) _ _ _ _ _ (by k_mem) hz _ ((R.pk hS i _ e).mono (by first | exact sub_self | exact sub_more sub_self | exact sub_more (sub_more sub_self) | exact sub_more (sub_more (sub_more sub_self)))) (by omega) _ g1) (by ktr_room) (by ktr_units) ?_
  intro t9 h9 tk9 F9 N9
  (try dsimp only)
  (try k_fold)
  k_steps
  refine useR R (by k_asm) (by k_asm) (by k_asm) (by k_asm) (by k_asm) (by first | exact rfl | assumption) (take_R R e _ (hS.more (by first | exact sub_self | exact sub_more sub_self | exact sub_more (sub_more sub_self) | exact sub_more (sub_more (sub_more sub_self))))) (by ktr_room) (by ktr_units) ?_
  intro r9 led9 h9 tk9 F9 N9 S9 sub9 V9 _ _ _ _ _ hOS9 hIS9 hLS9
  (try dsimp only)
  (try k_fold)
  k_steps
  refine Pk.elim (R.pk S9 (i + 1) _ e1) fun _ pb pd pa p1 p2 p3 p4 p5 p6 hx1 eP pm pn => ?_
  subst eP
  refine Pk.elim (R.pk S9 (i + 1 + 1) _ e2) fun _ qb qd qa q1 q2 q3 q4 q5 q6 hx2 eP qm qn => ?_
  subst eP
  refine useN (by k_asm) (by k_asm) (by k_asm) (by k_asm) (by k_asm) (by first | exact rfl | assumption) (is_lone_number_yes rd d l nm sh _ n _ _ _ _ _ vs (by k_mem) (by k_mem) (by k_mem) (by omega) hz pb pd pa _ _ p1 p2 p3 p4 p5 p6 hx1 (by k_mem) (by k_mem) qb qd qa _ _ q1 q2 q3 q4 q5 q6 hx2 (by k_mem) (by k_mem) gA gB g2) (by ktr_room) (by ktr_units) ?_
  intro t9 h9 tk9 F9 N9
  (try dsimp only)
  (try k_fold)
  k_steps
  refine useR R (by k_asm) (by k_asm) (by k_asm) (by k_asm) (by k_asm) (by first | exact rfl | assumption) (C _ (S9)) (by ktr_room) (by ktr_units) ?_
  intro r8 led8 h8 tk8 F8 N8 S8 sub8 V8 _ _ _ _ _ hOS8 hIS8 hLS8
  (try dsimp only)
  (try k_fold)
  obtain ⟨a1, a2, c1, c2, c3, rfl, am1, am2, an1, an2⟩ := V8
  k_steps
  refine useTN (by k_asm) (by k_asm) (by k_asm) (by k_asm) (by k_asm) (by first | exact rfl | assumption) (negated_ok a2 x y _ _ (by k_mem)) (by ktr_room) (by ktr_units) ?_
  intro D6 t6 u6 v6 h6 tk6 F6 N6 l6
  (try dsimp only)
  (try k_fold)
  k_steps
  have sub7 : ∀ p ∈ led, Fx d p.1 → p ∈ led8 := fun p hp hne => sub8 p (sub9 p (by first | exact hp | exact .tail _ (hp) | exact .tail _ (.tail _ (hp)) | exact .tail _ (.tail _ (.tail _ (hp)))) hne) hne
  all_goals exact ret _ _ _ _ (by k_asm) (by k_asm) ⟨S8.more (sub_more (sub_more sub_self)), fun p hp hne => .tail _ (.tail _ (sub7 p hp hne)), ⟨_, _, _, _, _, rfl, .head _, .tail _ (.head _), (by first | exact fx_new S8 (by assumption) | exact fx_new S8 (ktn_ltOf (by assumption)) | exact fx_new S8 (ktn_ltOf (And.right (by assumption))) | exact fx_new S8 (ktn_ltOf (And.right (And.right (by assumption)))) | exact fx_new S8 (ktn_ltOf (And.right (And.right (And.right (by assumption))))) | exact fx_new S8 (ktn_ltOf (And.right (And.right (And.right (And.right (by assumption)))))) | exact fx_new S8 (ktn_ltOf (And.right (And.right (And.right (And.right (And.right (by assumption)))))))), (by first | exact fx_new S8 (by assumption) | exact fx_new S8 (ktn_ltOf (by assumption)) | exact fx_new S8 (ktn_ltOf (And.right (by assumption))) | exact fx_new S8 (ktn_ltOf (And.right (And.right (by assumption)))) | exact fx_new S8 (ktn_ltOf (And.right (And.right (And.right (by assumption))))) | exact fx_new S8 (ktn_ltOf (And.right (And.right (And.right (And.right (by assumption)))))) | exact fx_new S8 (ktn_ltOf (And.right (And.right (And.right (And.right (And.right (by assumption))))))))⟩⟩
theorem read_product_ok (R : RB w bl rd d l n vs ts) (k u j : Nat) (V : Led → Value → Prop) (hV : Stable d V) (o2 : Option (Str × Str)) (e2 : ts[j]? = o2) (g2 : among o2 [Str.ofString "*", Str.ofString "/"] = Str.ofString "") (hj : j ≤ 900) (C : RCon w loose mean mg mb bl d l nm sh 464 44 [.ref rd, .int (k : Int) u] i j V) : RCon w loose mean mg mb bl d l nm sh 457 48 [.ref rd, .int (k : Int) u] (i) (j) (V) := by
  intro led hS
  obtain ⟨_, _, _, _, _, hOhS⟩ := hS.obj
  have hIhS := hS.keep _ R.inst
  have hLhS := hS.keep _ R.list
  have hz := R.size
  unfold Con
  k_fill
  intro dp un gd cn cs a ccd cl outer A₀ base h₀ L m s Q E B F X N T hkf hd hu ret
  refine wpAny_call ?_
  k_dflt (refine' code_def (binds := [("reader", Value.ref rd), ("depth", Value.int (k : Int) u)]) ?k1 ?k2 ?k3 ?k4 ?k5 ?kA ?kF ?kK ?k6 ?k7 ?k8 ?k9 ?kB ?_ ?c2 ?c3 ?c4 ?c5; (case kA => exact rfl); (case kF => exact rfl); (case kK => assumption); (case k1 => k_asm); (case k2 => k_asm); (case k3 => k_asm); (case k4 => k_asm); (case k5 => k_asm); (case k6 => k_is); (case k7 => k_is); (case k8 => ktr_room); (case k9 => first | exact BindsTo.of_eq rfl | exact kp_binds (by k_in) (fun _ => by kernel_rfl)); (case c5 => decide); (case kB => exact locs rfl); (case c2 => exact rfl); (case c3 => exact rfl); (case c4 => exact rfl); k_whole; intro g' L' h' FG' F' N' B' X' T'; (try dsimp only); (try k_lift B'); (try k_fold))
  k_steps
  refine useR R (by k_asm) (by k_asm) (by k_asm) (by k_asm) (by k_asm) (by first | exact rfl | assumption) (C _ (hS)) (by ktr_room) (by ktr_units) ?_
  intro r9 led9 h9 tk9 F9 N9 S9 sub9 V9 _ _ _ _ _ hOS9 hIS9 hLS9
  (try dsimp only)
  (try k_fold)
  k_steps
  refine whl_turn (k := 0) (by passes_own) ?_
  k_steps
  refine useN (by k_asm) (by k_asm) (by k_asm) (by k_asm) (by k_asm) (by first | exact rfl | assumption) (sign_among_ok2 rd d l nm sh _ n _ _ _ _ _ vs (by k_mem) (by k_mem) (by k_mem) _ _ _ _ _ (by k_mem) hz o2 ((R.pk S9 j _ e2).mono (by first | exact sub_self | exact sub_more sub_self | exact sub_more (sub_more sub_self) | exact sub_more (sub_more (sub_more sub_self)))) (by omega) _ g2) (by ktr_room) (by ktr_units) ?_
  intro t9 h9 tk9 F9 N9
  (try dsimp only)
  (try k_fold)
  k_steps
  all_goals exact ret _ _ _ _ (by k_asm) (by k_asm) ⟨S9.more (sub_more sub_self), fun p hp hne => .tail _ (sub9 p hp hne), hV _ _ _ (fun p hp _ => (sub_more sub_self) p hp) V9⟩
theorem read_product_mul (R : RB w bl rd d l n vs ts) (k u j j2 : Nat) (pd1 pd2 : PyData) (o2 o3 : Option (Str × Str)) (e2 : ts[j]? = some (Str.ofString "sign", Str.ofString "*")) (e3 : ts[j2]? = o3) (g3 : among o3 [Str.ofString "*", Str.ofString "/"] = Str.ofString "") (hj2 : j2 ≤ 900) (C1 : RCon w loose mean mg mb bl d l nm sh 464 44 [.ref rd, .int (k : Int) u] i j (Val d pd1)) (C2 : RCon w loose mean mg mb bl d l nm sh 464 44 [.ref rd, .int (k : Int) u] (j + 1) j2 (Val d pd2)) : RCon w loose mean mg mb bl d l nm sh 457 48 [.ref rd, .int (k : Int) u] (i) (j2) (Val d (.tuple [.str (Str.ofString "*"), pd1, pd2])) := by
  intro led hS
  obtain ⟨_, _, _, _, _, hOhS⟩ := hS.obj
  have hIhS := hS.keep _ R.inst
  have hLhS := hS.keep _ R.list
  have hz := R.size
  have hj : j ≤ 900 := Nat.le_of_lt (Nat.lt_of_lt_of_le (lt_len R e2) hz)
  have g2 : among (some (Str.ofString "sign", Str.ofString "*")) [Str.ofString "*", Str.ofString "/"] = Str.ofString "*" := by decide +kernel
  unfold Con
  k_fill
  intro dp un gd cn cs a ccd cl outer A₀ base h₀ L m s Q E B F X N T hkf hd hu ret
  refine wpAny_call ?_
  k_dflt (refine' code_def (binds := [("reader", Value.ref rd), ("depth", Value.int (k : Int) u)]) ?k1 ?k2 ?k3 ?k4 ?k5 ?kA ?kF ?kK ?k6 ?k7 ?k8 ?k9 ?kB ?_ ?c2 ?c3 ?c4 ?c5; (case kA => exact rfl); (case kF => exact rfl); (case kK => assumption); (case k1 => k_asm); (case k2 => k_asm); (case k3 => k_asm); (case k4 => k_asm); (case k5 => k_asm); (case k6 => k_is); (case k7 => k_is); (case k8 => ktr_room); (case k9 => first | exact BindsTo.of_eq rfl | exact kp_binds (by k_in) (fun _ => by kernel_rfl)); (case c5 => decide); (case kB => exact locs rfl); (case c2 => exact rfl); (case c3 => exact rfl); (case c4 => exact rfl); k_whole; intro g' L' h' FG' F' N' B' X' T'; (try dsimp only); (try k_lift B'); (try k_fold))
  k_steps
  refine useR R (by k_asm) (by k_asm) (by k_asm) (by k_asm) (by k_asm) (by first | exact rfl | assumption) (C1 _ (hS)) (by ktr_room) (by ktr_units) ?_
  intro r9 led9 h9 tk9 F9 N9 S9 sub9 V9 _ _ _ _ _ hOS9 hIS9 hLS9
  (try dsimp only)
  (try k_fold)
  k_steps
  refine whl_turn (k := 0) (by passes_own) ?_
  k_steps
  refine useN (by k_asm) (by k_asm) (by k_asm) (by k_asm) (by k_asm) (by first | exact rfl | assumption) (sign_among_ok2 rd d l nm sh _ n _ _ _ _ _ vs (by k_mem) (by k_mem) (by k_mem) _ _ _ _ _ (by k_mem) hz _ ((R.pk S9 j _ e2).mono (by first | exact sub_self | exact sub_more sub_self | exact sub_more (sub_more sub_self) | exact sub_more (sub_more (sub_more sub_self)))) (by omega) _ g2) (by ktr_room) (by ktr_units) ?_
  intro t9 h9 tk9 F9 N9
  (try dsimp only)
  (try k_fold)
  k_steps
  refine useR R (by k_asm) (by k_asm) (by k_asm) (by k_asm) (by k_asm) (by first | exact rfl | assumption) (take_R R e2 _ (S9.more (by first | exact sub_self | exact sub_more sub_self | exact sub_more (sub_more sub_self) | exact sub_more (sub_more (sub_more sub_self))))) (by ktr_room) (by ktr_units) ?_
  intro r8 led8 h8 tk8 F8 N8 S8 sub8 V8 _ _ _ _ _ hOS8 hIS8 hLS8
  (try dsimp only)
  (try k_fold)
  refine TokV.elim V8 fun b d2 at2 u1 u2 u3 u4 u5 u6 eV m1 m2 n1 n2 => ?_
  subst eV
  k_steps
  refine useR R (by k_asm) (by k_asm) (by k_asm) (by k_asm) (by k_asm) (by first | exact rfl | assumption) (C2 _ (S8)) (by ktr_room) (by ktr_units) ?_
  intro r7 led7 h7 tk7 F7 N7 S7 sub7 V7 _ _ _ _ _ hOS7 hIS7 hLS7
  (try dsimp only)
  (try k_fold)
  k_steps
  exact 0
  k_steps
  refine useN (by k_asm) (by k_asm) (by k_asm) (by k_asm) (by k_asm) (by first | exact rfl | assumption) (sign_among_ok2 rd d l nm sh _ n _ _ _ _ _ vs (by k_mem) (by k_mem) (by k_mem) _ _ _ _ _ (by k_mem) hz o3 ((R.pk S7 j2 _ e3).mono (by first | exact sub_self | exact sub_more sub_self | exact sub_more (sub_more sub_self) | exact sub_more (sub_more (sub_more sub_self)))) (by omega) _ g3) (by ktr_room) (by ktr_units) ?_
  intro t9 h9 tk9 F9 N9
  (try dsimp only)
  (try k_fold)
  k_steps
  have subA : ∀ p ∈ led9, Fx d p.1 → p ∈ led7 := fun p hp hne => sub7 p (sub8 p (.tail _ hp) hne) hne
  have subX : ∀ p ∈ led, Fx d p.1 → p ∈ led7 := fun p hp hne => subA p (sub9 p hp hne) hne
  have W9 := Val.stable _ _ _ subA V9
  all_goals exact ret _ _ _ _ (by k_asm) (by k_asm) ⟨S7.more (sub_more (sub_more sub_self)), fun p hp hne => .tail _ (.tail _ (subX p hp hne)), Val.tup (by k_mem) (by first | exact fx_new S7 (by assumption) | exact fx_new S7 (ktn_ltOf (by assumption)) | exact fx_new S7 (ktn_ltOf (And.right (by assumption))) | exact fx_new S7 (ktn_ltOf (And.right (And.right (by assumption)))) | exact fx_new S7 (ktn_ltOf (And.right (And.right (And.right (by assumption))))) | exact fx_new S7 (ktn_ltOf (And.right (And.right (And.right (And.right (by assumption)))))) | exact fx_new S7 (ktn_ltOf (And.right (And.right (And.right (And.right (And.right (by assumption)))))))) (.cons .str (.cons (W9.more (sub_more (sub_more sub_self))) (.cons (V7.more (sub_more (sub_more sub_self))) .nil)))⟩
end
end
theorem flush_37 : True := by
  w_top off
  first | walk1 | trivial
section
open PySem PySem.W PyProof.Rows PySem.Calls
set_option Elab.async false
set_option maxRecDepth 100000
set_option maxHeartbeats 0
section
variable {w : World} {loose : List Str} {mean : ExcName → Option Value} {mg mb : Str → Option Value} {led : Led}
end
section
variable {w : World} {loose : List Str} {mean : ExcName → Option Value} {mg mb : Str → Option Value}
variable {bl : Led} {rd d l n : Nat} {vs : List Value} {ts : List (Str × Str)} {nm sh : Addr} {i : Nat}
theorem read_sum_ok (R : RB w bl rd d l n vs ts) (u j1 j2 j3 : Nat) (pd1 pd2 pd3 : PyData) (o3 : Option (Str × Str)) (e1 : ts[j1]? = some (Str.ofString "sign", Str.ofString "-")) (e2 : ts[j2]? = some (Str.ofString "sign", Str.ofString "+")) (e3 : ts[j3]? = o3) (g3 : among o3 [Str.ofString "+", Str.ofString "-"] = Str.ofString "") (hj3 : j3 ≤ 900) (C1 : RCon w loose mean mg mb bl d l nm sh 457 48 [.ref rd, .int 0 u] i j1 (Val d pd1)) (C2 : RCon w loose mean mg mb bl d l nm sh 457 48 [.ref rd, .int 0 u] (j1 + 1) j2 (Val d pd2)) (C3 : RCon w loose mean mg mb bl d l nm sh 457 48 [.ref rd, .int 0 u] (j2 + 1) j3 (Val d pd3)) : RCon w loose mean mg mb bl d l nm sh 450 52 [.ref rd, .int 0 u] (i) (j3) (Val d (.tuple [.str (Str.ofString "+"), .tuple [.str (Str.ofString "-"), pd1, pd2], pd3])) := by
  intro led hS
  obtain ⟨_, _, _, _, _, hOhS⟩ := hS.obj
  have hIhS := hS.keep _ R.inst
  have hLhS := hS.keep _ R.list
  have hz := R.size
  have hj1 : j1 ≤ 900 := Nat.le_of_lt (Nat.lt_of_lt_of_le (lt_len R e1) hz)
  have hj2 : j2 ≤ 900 := Nat.le_of_lt (Nat.lt_of_lt_of_le (lt_len R e2) hz)
  have g1 : among (some (Str.ofString "sign", Str.ofString "-")) [Str.ofString "+", Str.ofString "-"] = Str.ofString "-" := by decide +kernel
  have g2 : among (some (Str.ofString "sign", Str.ofString "+")) [Str.ofString "+", Str.ofString "-"] = Str.ofString "+" := by decide +kernel
  unfold Con
  k_fill
  intro dp un gd cn cs a ccd cl outer A₀ base h₀ L m s Q E B F X N T hkf hd hu ret
  refine wpAny_call ?_
  k_dflt (refine' code_def (binds := [("reader", Value.ref rd), ("depth", Value.int 0 u)]) ?k1 ?k2 ?k3 ?k4 ?k5 ?kA ?kF ?kK ?k6 ?k7 ?k8 ?k9 ?kB ?_ ?c2 ?c3 ?c4 ?c5; (case kA => exact rfl); (case kF => exact rfl); (case kK => assumption); (case k1 => k_asm); (case k2 => k_asm); (case k3 => k_asm); (case k4 => k_asm); (case k5 => k_asm); (case k6 => k_is); (case k7 => k_is); (case k8 => ktr_room); (case k9 => first | exact BindsTo.of_eq rfl | exact kp_binds (by k_in) (fun _ => by kernel_rfl)); (case c5 => decide); (case kB => exact locs rfl); (case c2 => exact rfl); (case c3 => exact rfl); (case c4 => exact rfl); k_whole; intro g' L' h' FG' F' N' B' X' T'; (try dsimp only); (try k_lift B'); (try k_fold))
  k_steps
  refine useR R (by k_asm) (by k_asm) (by k_asm) (by k_asm) (by k_asm) (by first | exact rfl | assumption) (C1 _ (hS)) (by ktr_room) (by ktr_units) ?_
  intro r9 led9 h9 tk9 F9 N9 S9 sub9 V9 _ _ _ _ _ hOS9 hIS9 hLS9
  (try dsimp only)
  (try k_fold)
  k_steps
  refine whl_turn (k := 0) (by passes_own) ?_
  k_steps
  refine useN (by k_asm) (by k_asm) (by k_asm) (by k_asm) (by k_asm) (by first | exact rfl | assumption) (sign_among_ok2 rd d l nm sh _ n _ _ _ _ _ vs (by k_mem) (by k_mem) (by k_mem) _ _ _ _ _ (by k_mem) hz _ ((R.pk S9 j1 _ e1).mono (by first | exact sub_self | exact sub_more sub_self | exact sub_more (sub_more sub_self) | exact sub_more (sub_more (sub_more sub_self)))) (by omega) _ g1) (by ktr_room) (by ktr_units) ?_
  intro t9 h9 tk9 F9 N9
  (try dsimp only)
  (try k_fold)
  k_steps
  refine useR R (by k_asm) (by k_asm) (by k_asm) (by k_asm) (by k_asm) (by first | exact rfl | assumption) (take_R R e1 _ (S9.more (by first | exact sub_self | exact sub_more sub_self | exact sub_more (sub_more sub_self) | exact sub_more (sub_more (sub_more sub_self))))) (by ktr_room) (by ktr_units) ?_
  intro r8 led8 h8 tk8 F8 N8 S8 sub8 V8 _ _ _ _ _ hOS8 hIS8 hLS8
  (try dsimp only)
  (try k_fold)
  refine TokV.elim V8 fun b8 e8 a8 u1 u2 u3 u4 u5 u6 eV m18 m28 n18 n28 => ?_
  subst eV
  k_steps
  refine useR R (by k_asm) (by k_asm) (by k_asm) (by k_asm) (by k_asm) (by first | exact rfl | assumption) (C2 _ (S8)) (by ktr_room) (by ktr_units) ?_
  intro r7 led7 h7 tk7 F7 N7 S7 sub7 V7 _ _ _ _ _ hOS7 hIS7 hLS7
  (try dsimp only)
  (try k_fold)
  k_steps
  exact 0
  k_steps
  refine useN (by k_asm) (by k_asm) (by k_asm) (by k_asm) (by k_asm) (by first | exact rfl | assumption) (sign_among_ok2 rd d l nm sh _ n _ _ _ _ _ vs (by k_mem) (by k_mem) (by k_mem) _ _ _ _ _ (by k_mem) hz _ ((R.pk S7 j2 _ e2).mono (by first | exact sub_self | exact sub_more sub_self | exact sub_more (sub_more sub_self) | exact sub_more (sub_more (sub_more sub_self)))) (by omega) _ g2) (by ktr_room) (by ktr_units) ?_
  intro t9 h9 tk9 F9 N9
  (try dsimp only)
  (try k_fold)
  k_steps
  refine useR R (by k_asm) (by k_asm) (by k_asm) (by k_asm) (by k_asm) (by first | exact rfl | assumption) (take_R R e2 _ (S7.more (by first | exact sub_self | exact sub_more sub_self | exact sub_more (sub_more sub_self) | exact sub_more (sub_more (sub_more sub_self))))) (by ktr_room) (by ktr_units) ?_
  intro r6 led6 h6 tk6 F6 N6 S6 sub6 V6 _ _ _ _ _ hOS6 hIS6 hLS6
  (try dsimp only)
  (try k_fold)
  refine TokV.elim V6 fun b6 e6 a6 u1 u2 u3 u4 u5 u6 eV m16 m26 n16 n26 => ?_
  subst eV
  k_steps
  refine useR R (by k_asm) (by k_asm) (by k_asm) (by k_asm) (by k_asm) (by first | exact rfl | assumption) (C3 _ (S6)) (by ktr_room) (by ktr_units) ?_
  intro r5 led5 h5 tk5 F5 N5 S5 sub5 V5 _ _ _ _ _ hOS5 hIS5 hLS5
  (try dsimp only)
  (try k_fold)
  k_steps
  exact 0
  k_steps
  refine useN (by k_asm) (by k_asm) (by k_asm) (by k_asm) (by k_asm) (by first | exact rfl | assumption) (sign_among_ok2 rd d l nm sh _ n _ _ _ _ _ vs (by k_mem) (by k_mem) (by k_mem) _ _ _ _ _ (by k_mem) hz o3 ((R.pk S5 j3 _ e3).mono (by first | exact sub_self | exact sub_more sub_self | exact sub_more (sub_more sub_self) | exact sub_more (sub_more (sub_more sub_self)))) (by omega) _ g3) (by ktr_room) (by ktr_units) ?_
  intro t9 h9 tk9 F9 N9
  (try dsimp only)
  (try k_fold)
  k_steps
  have subB : ∀ p ∈ led7, Fx d p.1 → p ∈ led5 := fun p hp hne => sub5 p (sub6 p (.tail _ (.tail _ hp)) hne) hne
  have subA : ∀ p ∈ led9, Fx d p.1 → p ∈ led5 := fun p hp hne => subB p (sub7 p (sub8 p (.tail _ hp) hne) hne) hne
  have subX : ∀ p ∈ led, Fx d p.1 → p ∈ led5 := fun p hp hne => subA p (sub9 p hp hne) hne
  have W9 := Val.stable _ _ _ subA V9
  have W7 := Val.stable _ _ _ subB V7
  all_goals exact ret _ _ _ _ (by k_asm) (by k_asm) ⟨S5.more (sub_more (sub_more sub_self)), fun p hp hne => .tail _ (.tail _ (subX p hp hne)), Val.tup (by k_mem) (by first | exact fx_new S5 (by assumption) | exact fx_new S5 (ktn_ltOf (by assumption)) | exact fx_new S5 (ktn_ltOf (And.right (by assumption))) | exact fx_new S5 (ktn_ltOf (And.right (And.right (by assumption)))) | exact fx_new S5 (ktn_ltOf (And.right (And.right (And.right (by assumption))))) | exact fx_new S5 (ktn_ltOf (And.right (And.right (And.right (And.right (by assumption)))))) | exact fx_new S5 (ktn_ltOf (And.right (And.right (And.right (And.right (And.right (by assumption)))))))) (.cons .str (.cons (Val.more (Val.tup (sub5 _ (sub6 _ (.tail _ (.head _)) (by first | exact fx_new S7 (by assumption) | exact fx_new S7 (ktn_ltOf (by assumption)) | exact fx_new S7 (ktn_ltOf (And.right (by assumption))) | exact fx_new S7 (ktn_ltOf (And.right (And.right (by assumption)))) | exact fx_new S7 (ktn_ltOf (And.right (And.right (And.right (by assumption))))) | exact fx_new S7 (ktn_ltOf (And.right (And.right (And.right (And.right (by assumption)))))) | exact fx_new S7 (ktn_ltOf (And.right (And.right (And.right (And.right (And.right (by assumption))))))))) (by first | exact fx_new S7 (by assumption) | exact fx_new S7 (ktn_ltOf (by assumption)) | exact fx_new S7 (ktn_ltOf (And.right (by assumption))) | exact fx_new S7 (ktn_ltOf (And.right (And.right (by assumption)))) | exact fx_new S7 (ktn_ltOf (And.right (And.right (And.right (by assumption))))) | exact fx_new S7 (ktn_ltOf (And.right (And.right (And.right (And.right (by assumption)))))) | exact fx_new S7 (ktn_ltOf (And.right (And.right (And.right (And.right (And.right (by assumption))))))))) (by first | exact fx_new S7 (by assumption) | exact fx_new S7 (ktn_ltOf (by assumption)) | exact fx_new S7 (ktn_ltOf (And.right (by assumption))) | exact fx_new S7 (ktn_ltOf (And.right (And.right (by assumption)))) | exact fx_new S7 (ktn_ltOf (And.right (And.right (And.right (by assumption))))) | exact fx_new S7 (ktn_ltOf (And.right (And.right (And.right (And.right (by assumption)))))) | exact fx_new S7 (ktn_ltOf (And.right (And.right (And.right (And.right (And.right (by assumption)))))))) (.cons .str (.cons W9 (.cons W7 .nil)))) (sub_more (sub_more sub_self))) (.cons (V5.more (sub_more (sub_more sub_self))) .nil)))⟩
theorem read_expression_ok (R : RB w bl rd d l n vs ts) (j3 : Nat) (V : Led → Value → Prop) (C : ∀ u, RCon w loose mean mg mb bl d l nm sh 450 52 [.ref rd, .int 0 u] i j3 V) : RCon w loose mean mg mb bl d l nm sh 436 54 [.ref rd] (i) (j3) (V) := by
  intro led hS
  obtain ⟨_, _, _, _, _, hOhS⟩ := hS.obj
  have hIhS := hS.keep _ R.inst
  have hLhS := hS.keep _ R.list
  have hz := R.size
  unfold Con
  k_fill
  intro dp un gd cn cs a ccd cl outer A₀ base h₀ L m s Q E B F X N T hkf hd hu ret
  refine wpAny_call ?_
  k_dflt (refine' code_def (binds := [("reader", Value.ref rd)]) ?k1 ?k2 ?k3 ?k4 ?k5 ?kA ?kF ?kK ?k6 ?k7 ?k8 ?k9 ?kB ?_ ?c2 ?c3 ?c4 ?c5; (case kA => exact rfl); (case kF => exact rfl); (case kK => assumption); (case k1 => k_asm); (case k2 => k_asm); (case k3 => k_asm); (case k4 => k_asm); (case k5 => k_asm); (case k6 => k_is); (case k7 => k_is); (case k8 => ktr_room); (case k9 => first | exact BindsTo.of_eq rfl | exact kp_binds (by k_in) (fun _ => by kernel_rfl)); (case c5 => decide); (case kB => exact locs rfl); (case c2 => exact rfl); (case c3 => exact rfl); (case c4 => exact rfl); k_whole; intro g' L' h' FG' F' N' B' X' T'; (try dsimp only); (try k_lift B'); (try k_fold))
  k_steps
  refine useR R (by k_asm) (by k_asm) (by k_asm) (by k_asm) (by k_asm) (by first | exact rfl | assumption) (C _ _ (hS)) (by ktr_room) (by ktr_units) ?_
  intro r9 led9 h9 tk9 F9 N9 S9 sub9 V9 _ _ _ _ _ hOS9 hIS9 hLS9
  (try dsimp only)
  (try k_fold)
  k_steps
  all_goals exact ret _ _ _ _ (by k_asm) (by k_asm) ⟨S9, sub9, V9⟩
end
end
theorem flush_38 : True := by
  w_top off
  first | walk1 | trivial
end
theorem flush_39 : True := by
  w_top off
  first | walk1 | trivial
end
theorem flush_40 : True := by
  w_top off
  first | walk1 | trivial
section
open PySem PySem.W PyProof.Rows PySem.Calls
set_option Elab.async false
set_option maxRecDepth 100000
theorem m45 : Str.ofString "-" = S [45] := by decide +kernel
theorem m43 : Str.ofString "+" = S [43] := by decide +kernel
theorem m42 : Str.ofString "*" = S [42] := by decide +kernel
theorem k_ns : (Str.ofString "number" == Str.ofString "sign") = false := by decide +kernel
theorem k_ws : (Str.ofString "word" == Str.ofString "sign") = false := by decide +kernel
theorem k_sw : (Str.ofString "sign" == Str.ofString "word") = false := by decide +kernel
def numPd (x : Int) (sc : Nat) : PyData := .tuple [.str (Str.ofString "number"), .tuple [.int x, .int sc]]
def itemPd : PyData := .tuple [.str (Str.ofString "ref"), .str (Str.ofString "A"), .tuple [], .tuple [], .none]
def exprPd (x : Int) (sc : Nat) : PyData := .tuple [.str (Str.ofString "+"), .tuple [.str (Str.ofString "-"), itemPd, numPd x sc], .tuple [.str (Str.ofString "*"), numPd x sc, itemPd]]
theorem among_off {k x : Str} {gs : List Str} (h : (k == Str.ofString "sign") = false) : among (some (k, x)) gs = Str.ofString "" := by
  show (if (k == Str.ofString "sign" && gs.any fun z => z == x) = true then x else Str.ofString "") = _
  rw [h]
  rfl
section
variable {w : World} {loose : List Str} {mean : ExcName → Option Value} {mg mb : Str → Option Value}
theorem dec_ok {l : List Nat} {n sc : Nat} {a b : List Nat} (h : Shape l n sc a b) (hn : sc = 0 ∨ n % 10 ≠ 0) (led : Led) (t : Tok) : Con w loose mean mg mb 131 9 [.str (S l) t] led (BackT led fun t1 t2 _ => [.int (n : Int) t1, .int (sc : Int) t2]) := by
  by_cases h0 : sc = 0
  · obtain ⟨e1, e2⟩ := h.whole h0
    have hl := h.lab
    have hv := h.val
    rw [e2, List.append_nil] at hv
    rw [e2] at hl
    rw [e1, h0]
    refine read_decimal_w a n t h.da (by simpa using hl) hv ?_
    cases ha : a with
    | nil => exact absurd (h.emp ha) (by omega)
    | cons c r => simp
  · rw [h.parted h0, ← h.lb]
    exact read_decimal_p a b n t h.da h.db h.lab h.val (by rw [h.lb]; omega) (hn.resolve_left h0)
variable {bl : Led} {rd d l n : Nat} {vs : List Value} {ts : List (Str × Str)} {nm sh : Addr} {i : Nat}
theorem opnd_pos (R : RB w bl rd d l n vs ts) (fn : Value) (tx : Str) (x y : Int) (e : ts[i]? = some (Str.ofString "number", tx)) (C : ∀ (led : Led) (t : Tok), Con w loose mean mg mb 131 9 [.str tx t] led (BackT led fun t1 t2 _ => [.int x t1, .int y t2])) :
    RCon w loose mean mg mb bl d l nm sh 397 32 [.ref rd, fn] i (i + 1) (NumV d x y) := by
  have hi : i ≤ 900 := Nat.le_of_lt (Nat.lt_of_lt_of_le (lt_len R e) R.size)
  refine read_operand_num R fn (i + 1) x y (fun led hS => ?_) (signed_num R tx x y e C)
  obtain ⟨t1, t2, t3, t4, t5, hO⟩ := hS.obj
  exact is_number_a rd d l nm sh i n t1 t2 t3 t4 t5 vs (hS.keep _ R.inst) hO (hS.keep _ R.list) hi R.size _ (R.pk hS i _ e) (signIs_no k_ns) (signIs_no k_ns) true kindIs_eq
theorem opnd_neg (R : RB w bl rd d l n vs ts) (fn : Value) (tx : Str) (x y : Int) (e : ts[i]? = some (Str.ofString "sign", Str.ofString "-")) (e1 : ts[i + 1]? = some (Str.ofString "number", tx)) (C : ∀ (led : Led) (t : Tok), Con w loose mean mg mb 131 9 [.str tx t] led (BackT led fun t1 t2 _ => [.int x t1, .int y t2])) :
    RCon w loose mean mg mb bl d l nm sh 397 32 [.ref rd, fn] i (i + 1 + 1) (NumV d (-x) y) := by
  have hi : i ≤ 900 := Nat.le_of_lt (Nat.lt_of_lt_of_le (lt_len R e) R.size)
  refine read_operand_num R fn (i + 1 + 1) (-x) y (fun led hS => ?_) (signed_neg R tx x y e e1 C)
  obtain ⟨t1, t2, t3, t4, t5, hO⟩ := hS.obj
  exact is_number_b rd d l nm sh i n t1 t2 t3 t4 t5 vs (hS.keep _ R.inst) hO (hS.keep _ R.list) hi R.size _ (R.pk hS i _ e) _ (R.pk hS (i + 1) _ e1) (by decide +kernel) (by decide +kernel) kindIs_eq
theorem fac_of (R : RB w bl rd d l n vs ts) (k u j : Nat) (V : Led → Value → Prop) (hV : Stable d V) (o : Option (Str × Str)) (e : ts[i]? = o) (g1 : among o [Str.ofString "+", Str.ofString "-"] = Str.ofString "") (g2 : signIs o (Str.ofString "(") = false) (hi : i < 900) (o2 : Option (Str × Str)) (e2 : ts[j]? = o2)
    (g3 : ∀ kw, o2 = some kw → ([Str.ofString "**"].any fun z => z == kw.2) = false) (hj : j ≤ 900) (C : ∀ fn, RCon w loose mean mg mb bl d l nm sh 397 32 [.ref rd, fn] i j V) : RCon w loose mean mg mb bl d l nm sh 464 44 [.ref rd, .int (k : Int) u] i j V :=
  read_factor_ok R k u j V hV o e g1 (by omega) (read_power_ok R k u j V hV o2 e2 g3 hj (read_primary_ok R k u j V hV o e g1 g2 hi C))
theorem fac_item (R : RB w bl rd d l n vs ts) (k u : Nat) (e : ts[i]? = some (Str.ofString "word", Str.ofString "A")) (hi : i < 100) (o2 : Option (Str × Str)) (e2 : ts[i + 1]? = o2) (g1 : kindIs o2 (Str.ofString "word") = false) (g2 : signIs o2 (Str.ofString "(") = false)
    (g3 : ∀ kw, o2 = some kw → ([Str.ofString "**"].any fun z => z == kw.2) = false) : RCon w loose mean mg mb bl d l nm sh 464 44 [.ref rd, .int (k : Int) u] i (i + 1) (Val d itemPd) :=
  fac_of R k u (i + 1) _ Val.stable _ e (among_off k_ws) (signIs_no k_ws) (by omega) o2 e2 g3 (by omega) fun fn => read_operand_A R fn e o2 e2 g1 g2
theorem fac_pos (R : RB w bl rd d l n vs ts) (k u : Nat) (tx : Str) (x : Int) (sc : Nat) (e : ts[i]? = some (Str.ofString "number", tx)) (hi : i < 100) (o2 : Option (Str × Str)) (e2 : ts[i + 1]? = o2) (g3 : ∀ kw, o2 = some kw → ([Str.ofString "**"].any fun z => z == kw.2) = false)
    (C : ∀ (led : Led) (t : Tok), Con w loose mean mg mb 131 9 [.str tx t] led (BackT led fun t1 t2 _ => [.int x t1, .int (sc : Int) t2])) : RCon w loose mean mg mb bl d l nm sh 464 44 [.ref rd, .int (k : Int) u] i (i + 1) (Val d (numPd x sc)) :=
  RCon.mono (fac_of R k u (i + 1) _ NumV.stable _ e (among_off k_ns) (signIs_no k_ns) (by omega) o2 e2 g3 (by omega) fun fn => opnd_pos R fn tx x sc e C) fun _ _ h => h.val
theorem fac_neg (R : RB w bl rd d l n vs ts) (k u : Nat) (tx gw : Str) (x : Int) (sc : Nat) (e : ts[i]? = some (Str.ofString "sign", Str.ofString "-")) (e1 : ts[i + 1]? = some (Str.ofString "number", tx)) (e2 : ts[i + 1 + 1]? = some (Str.ofString "sign", gw)) (hi : i < 100) (g2 : (gw != Str.ofString "**") = true) (g3 : ([Str.ofString "**"].any fun z => z == gw) = false)
    (C : ∀ (led : Led) (t : Tok), Con w loose mean mg mb 131 9 [.str tx t] led (BackT led fun t1 t2 _ => [.int x t1, .int (sc : Int) t2])) : RCon w loose mean mg mb bl d l nm sh 464 44 [.ref rd, .int (k : Int) u] i (i + 1 + 1) (Val d (numPd (-x) sc)) :=
  RCon.mono (read_factor_neg R k u tx gw x sc e e1 e2 g2 (read_power_ok R k u (i + 1 + 1) _ NumV.stable _ e2 (fun kw h => by cases h; exact g3) (by omega) (read_primary_ok R k u (i + 1 + 1) _ NumV.stable _ e1 (among_off k_ns) (signIs_no k_ns) (by omega) fun fn => opnd_pos R fn tx x sc e1 C))) fun _ _ h => h.val
theorem read_ex_pos (q : List Nat) (hts : ts = exToks false q) (R : RB w bl rd d l n vs ts) (x : Int) (sc : Nat) (C : ∀ (led : Led) (t : Tok), Con w loose mean mg mb 131 9 [.str (S q) t] led (BackT led fun t1 t2 _ => [.int x t1, .int (sc : Int) t2])) :
    RCon w loose mean mg mb bl d l nm sh 436 54 [.ref rd] 0 7 (Val d (exprPd x sc)) := by
  have e0 : ts[0]? = some (Str.ofString "word", Str.ofString "A") := by rw [hts]; rfl
  have e1 : ts[1]? = some (Str.ofString "sign", Str.ofString "-") := by rw [hts, m45]; rfl
  have e2 : ts[2]? = some (Str.ofString "number", S q) := by rw [hts]; rfl
  have e3 : ts[3]? = some (Str.ofString "sign", Str.ofString "+") := by rw [hts, m43]; rfl
  have e4 : ts[4]? = some (Str.ofString "number", S q) := by rw [hts]; rfl
  have e5 : ts[5]? = some (Str.ofString "sign", Str.ofString "*") := by rw [hts, m42]; rfl
  have e6 : ts[6]? = some (Str.ofString "word", Str.ofString "A") := by rw [hts]; rfl
  have e7 : ts[7]? = none := by rw [hts]; rfl
  refine read_expression_ok R 7 _ fun u => read_sum_ok R u 1 3 7 itemPd (numPd x sc) (.tuple [.str (Str.ofString "*"), numPd x sc, itemPd]) none e1 e3 e7 rfl (by decide) ?_ ?_ ?_
  · exact read_product_ok R 0 u 1 _ Val.stable _ e1 (by decide +kernel) (by decide) (fac_item R 0 u e0 (by decide) _ e1 (by decide +kernel) (by decide +kernel) fun kw h => by cases h; decide +kernel)
  · exact read_product_ok R 0 u 3 _ Val.stable _ e3 (by decide +kernel) (by decide) (fac_pos R 0 u _ x sc e2 (by decide) _ e3 (fun kw h => by cases h; decide +kernel) C)
  · exact read_product_mul R 0 u 5 7 (numPd x sc) itemPd none none e5 e7 rfl (by decide) (fac_pos R 0 u _ x sc e4 (by decide) _ e5 (fun kw h => by cases h; decide +kernel) C) (fac_item R 0 u e6 (by decide) none e7 rfl rfl fun kw h => nomatch h)
theorem read_ex_neg (q : List Nat) (hts : ts = exToks true q) (R : RB w bl rd d l n vs ts) (x : Int) (sc : Nat) (C : ∀ (led : Led) (t : Tok), Con w loose mean mg mb 131 9 [.str (S q) t] led (BackT led fun t1 t2 _ => [.int x t1, .int (sc : Int) t2])) :
    RCon w loose mean mg mb bl d l nm sh 436 54 [.ref rd] 0 9 (Val d (exprPd (-x) sc)) := by
  have e0 : ts[0]? = some (Str.ofString "word", Str.ofString "A") := by rw [hts]; rfl
  have e1 : ts[1]? = some (Str.ofString "sign", Str.ofString "-") := by rw [hts, m45]; rfl
  have e2 : ts[2]? = some (Str.ofString "sign", Str.ofString "-") := by rw [hts, m45]; rfl
  have e3 : ts[3]? = some (Str.ofString "number", S q) := by rw [hts]; rfl
  have e4 : ts[4]? = some (Str.ofString "sign", Str.ofString "+") := by rw [hts, m43]; rfl
  have e5 : ts[5]? = some (Str.ofString "sign", Str.ofString "-") := by rw [hts, m45]; rfl
  have e6 : ts[6]? = some (Str.ofString "number", S q) := by rw [hts]; rfl
  have e7 : ts[7]? = some (Str.ofString "sign", Str.ofString "*") := by rw [hts, m42]; rfl
  have e8 : ts[8]? = some (Str.ofString "word", Str.ofString "A") := by rw [hts]; rfl
  have e9 : ts[9]? = none := by rw [hts]; rfl
  refine read_expression_ok R 9 _ fun u => read_sum_ok R u 1 4 9 itemPd (numPd (-x) sc) (.tuple [.str (Str.ofString "*"), numPd (-x) sc, itemPd]) none e1 e4 e9 rfl (by decide) ?_ ?_ ?_
  · exact read_product_ok R 0 u 1 _ Val.stable _ e1 (by decide +kernel) (by decide) (fac_item R 0 u e0 (by decide) _ e1 (by decide +kernel) (by decide +kernel) fun kw h => by cases h; decide +kernel)
  · exact read_product_ok R 0 u 4 _ Val.stable _ e4 (by decide +kernel) (by decide) (fac_neg R 0 u _ _ x sc e2 e3 e4 (by decide) (by decide +kernel) (by decide +kernel) C)
  · exact read_product_mul R 0 u 7 9 (numPd (-x) sc) itemPd none none e7 e9 rfl (by decide) (fac_neg R 0 u _ _ x sc e5 e6 e7 (by decide) (by decide +kernel) (by decide +kernel) C) (fac_item R 0 u e8 (by decide) none e9 rfl rfl fun kw h => nomatch h)
end
end
theorem flush_41 : True := by
  w_top off
  first | walk1 | trivial
section
open PySem PySem.W PyProof.Rows PySem.Calls
set_option Elab.async false
set_option maxRecDepth 100000
set_option maxHeartbeats 0
section
variable {w : World} {loose : List Str} {mean : ExcName → Option Value} {mg mb : Str → Option Value} {led : Led}
def cuts : Nat → Int → List Unit
  | 0, _ => []
  | k + 1, x => if x.fmod 10 = 0 then () :: cuts k (x.fdiv 10) else []
theorem look2 (z a b : Str) (v u : Value) : List.lookup z [(a, v), (b, u)].reverse = if z = b then some u else if z = a then some v else none := by
  show List.lookup z [(b, u), (a, v)] = _
  by_cases h1 : z = b
  · simp [List.lookup, h1]
  · by_cases h2 : z = a
    · subst h2
      simp [List.lookup, h1, beq_eq_false_iff_ne.mpr h1]
    · simp [List.lookup, h1, h2, beq_eq_false_iff_ne.mpr h1, beq_eq_false_iff_ne.mpr h2]
theorem cut_map {x y : Int} {t : Tok} {t2 t3 t4 : Option Value} {b : Str → Option Value} (e : x = y) (z : Str) : (if z = Str.ofString "units" then t2 else if z = Str.ofString "scale" then some (Value.int x t) else if z = Str.ofString "scale" then t3 else if z = Str.ofString "units" then t4 else b z) = if z = Str.ofString "scale" then some (.int y t) else if z = Str.ofString "units" then t2 else b z := by
  subst e
  by_cases h1 : z = Str.ofString "scale"
  · subst h1; rfl
  · by_cases h2 : z = Str.ofString "units"
    · simp only [h2, if_true]; rfl
    · simp only [h1, h2, if_false]
theorem cuts_nil {k : Nat} {x : Int} (h : [] = cuts k x) : k = 0 ∨ x.fmod 10 ≠ 0 := by
  cases k with
  | zero => exact .inl rfl
  | succ k =>
    refine .inr fun e => ?_
    unfold cuts at h
    rw [if_pos e] at h
    cases h
theorem cuts_cons {k : Nat} {x : Int} {u : Unit} {r : List Unit} (h : u :: r = cuts k x) : ∃ k3, k = k3 + 1 ∧ x.fmod 10 = 0 ∧ r = cuts k3 (x.fdiv 10) := by
  cases k with
  | zero => cases h
  | succ k =>
    unfold cuts at h
    split at h
    · rename_i e
      cases h
      exact ⟨k, rfl, e, rfl⟩
    · cases h
theorem cut_norm {k : Nat} {x : Int} (h : k = 0 ∨ x.fmod 10 ≠ 0) : k = 0 ∨ x.natAbs % 10 ≠ 0 := by
  rw [Int.fmod_eq_emod_of_nonneg x (by decide)] at h
  omega
local macro_rules | `(tactic| walk_at "exec While") => `(tactic| (k_here; refine wpAny_While ?_))
theorem law_cut_ok (x : Int) (k : Nat) (v1 v2 : Tok) (hx : x.natAbs < 10 ^ 18) (hk : k ≤ 18) : Con w loose mean mg mb 733 6 [.int x v1, .int (k : Int) v2] led (fun r l' => ∃ D x' k' t1 t2, r = .ref D ∧ l' = (D, tupObj [.int x' t1, .int ((k' : Nat) : Int) t2]) :: led ∧ (∀ p ∈ led, p.1 < D) ∧ x'.natAbs < 10 ^ 18 ∧ k' ≤ 18 ∧ (k' = 0 ∨ x'.natAbs % 10 ≠ 0)) := by
  unfold Con
  k_fill
  intro dp un gd cn cs a ccd cl outer A₀ base h₀ L m s Q E B F X N T hkf hd hu ret
  refine wpAny_call ?_
  k_dflt (refine' code_def (binds := [("units", Value.int x v1), ("scale", Value.int (k : Int) v2)]) ?k1 ?k2 ?k3 ?k4 ?k5 ?kA ?kF ?kK ?k6 ?k7 ?k8 ?k9 ?kB ?_ ?c2 ?c3 ?c4 ?c5; (case kA => exact rfl); (case kF => exact rfl); (case kK => first | assumption | exact rfl); (case k1 => k_asm); (case k2 => k_asm); (case k3 => k_asm); (case k4 => k_asm); (case k5 => k_asm); (case k6 => k_is); (case k7 => k_is); (case k8 => ktr_room); (case k9 => first | exact BindsTo.of_eq rfl | exact kp_binds (by k_in) (fun _ => by kernel_rfl)); (case c5 => decide); (case kB => exact locs rfl); (case c2 => exact rfl); (case c3 => exact rfl); (case c4 => exact rfl); k_whole; intro g' L' h' FG' F' N' B' X' T'; (try dsimp only); (try k_lift B'); (try k_fold))
  k_steps
  refine while_items (by passes_own) (fun items s₂ => ∃ (hh : Heap) (tkk : Nat) (x2 : Int) (k2 : Nat) (u1 u2 : Tok), s₂ = { s with heap := hh, toks := tkk } ∧ Fr g' L' hh (fun y => if y = Str.ofString "scale" then some (Value.int ((k2 : Nat) : Int) u2) else if y = Str.ofString "units" then some (Value.int x2 u1) else none) ∧ News g' L' hh led ∧ items = cuts k2 x2 ∧ x2.natAbs < 10 ^ 18 ∧ k2 ≤ 18) ?turn ?stop (cuts k x) _ ?start
  case start =>
    exact ⟨_, _, x, k, v1, v2, rfl, fr_map (by k_asm) fun z => look2 z _ _ _ _, by k_asm, rfl, hx, hk⟩
  case stop =>
    rintro s₂ ⟨hh, tkk, x2, k2, u1, u2, rfl, F2, N2, hc, hx2, hk2⟩
    have hr := cuts_nil hc
    rcases Nat.eq_zero_or_pos k2 with h0 | h0
    · have hz : ¬ 0 < ((k2 : Nat) : Int) := by omega
      k_steps
      all_goals exact ret _ _ _ _ (by k_asm) (by k_asm) ⟨_, x2, k2, _, _, rfl, rfl, by first | assumption | exact ktn_ltOf (by assumption) | exact ktn_ltOf (And.right (by assumption)) | exact ktn_ltOf (And.right (And.right (by assumption))), hx2, hk2, cut_norm hr⟩
    · have hz : 0 < ((k2 : Nat) : Int) := by omega
      have hm0 : (x2.fmod 10 == 0) = false := beq_eq_false_iff_ne.mpr (hr.resolve_left (by omega))
      k_steps
      all_goals exact ret _ _ _ _ (by k_asm) (by k_asm) ⟨_, x2, k2, _, _, rfl, rfl, by first | assumption | exact ktn_ltOf (by assumption) | exact ktn_ltOf (And.right (by assumption)) | exact ktn_ltOf (And.right (And.right (by assumption))), hx2, hk2, cut_norm hr⟩
  case turn =>
    rintro it rest s₂ ⟨hh, tkk, x2, k2, u1, u2, rfl, F2, N2, hc, hx2, hk2⟩
    obtain ⟨k3, rfl, hm1, hr⟩ := cuts_cons hc
    have hm0 : (x2.fmod 10 == 0) = true := beq_iff_eq.mpr hm1
    have hz : 0 < ((k3 + 1 : Nat) : Int) := by omega
    k_steps
    exact ⟨_, _, x2.fdiv 10, k3, _, _, rfl, fr_map (by k_asm) (cut_map (by omega)), by first | k_asm | exact news_sub (by k_asm) (by first | exact sub_self | exact sub_more sub_self | exact sub_more (sub_more sub_self) | exact sub_more (sub_more (sub_more sub_self))), hr, by rw [Int.fdiv_eq_ediv_of_nonneg x2 (by decide)]; omega, by omega⟩
end
end
theorem flush_42 : True := by
  w_top off
  first | walk1 | trivial
section
open PySem PySem.W PyProof.Rows PySem.Calls
set_option Elab.async false
set_option maxRecDepth 100000
set_option maxHeartbeats 0
section
variable {w : World} {loose : List Str} {mean : ExcName → Option Value} {mg mb : Str → Option Value} {led : Led}
theorem log2_small {n : Nat} (h : n < 2 ^ 64) : n.log2 < 9000 := by
  by_cases h0 : n = 0
  · subst h0; decide +kernel
  · exact Nat.lt_of_lt_of_le ((Nat.log2_lt h0).mpr h) (by decide)
section
variable {prog : Program} {w : World} {A : Around} {E : Value → Shared → Prop} {s : Shared} {t u : Tok} {Q : Value → Shared → Prop}
theorem divmod_K {h₀ : Heap} {L : Addr} {m : Str → Option Value} {led : Led} {a b q r : Int} (eq : a.fdiv b = q) (er : a.fmod b = r) (F : Fr h₀ L s.heap m) (N : News h₀ L s.heap led) (hb : 0 < b) (hb2 : b ≤ 10 ^ 18)
    (h : ∀ D t1 t2 h' k', Fr h₀ L h' m → News h₀ L h' ((D, tupObj [.int q t1, .int r t2]) :: led) → (∀ p ∈ led, p.1 < D) → Q (.ref D) { s with toks := k', heap := h' }) :
    wpAny (model prog w) A (call (.builtin "divmod") [.int a t, .int b u]) Q E s := by
  subst eq
  subst er
  exact divmod_N F N (by omega) (fun h' F' N' => h _ _ _ h' _ F' N' fun p hp => Heap.lt_size (N p hp).1) (.inl (PyProof.noPylong_of_log2 (log2_small (by omega))))
theorem pow_is {a n y : Int} (e : a ^ n.toNat = y) (hn : 0 ≤ n) (hn2 : n ≤ 1000000) (ha : a.natAbs < 2 ^ 64) (h : ∀ k t', Q (.int y t') { s with toks := k }) : wpAny (model prog w) A (binaryOp .Pow (.int a t) (.int n u)) Q E s := by
  subst e
  exact pow_int_small hn hn2 ha (h _ _)
theorem fdiv_is {a b y : Int} (e : a.fdiv b = y) (hb : b ≠ 0) (hb2 : b.natAbs < 2 ^ 64) (h : ∀ k t', Q (.int y t') { s with toks := k }) : wpAny (model prog w) A (binaryOp .FloorDiv (.int a t) (.int b u)) Q E s := by
  subst e
  exact floordiv_int hb (h _ _) (.inl (PyProof.noPylong_of_log2 (log2_small hb2)))
end
local macro_rules | `(tactic| walk_at "subscriptTail") => `(tactic| (k_here; (with_reducible show wpAny _ _ (subscriptTail _ _ (Value.ref _) (Value.int _ _)) _ _ _); k_dflt (refine' item_led ?N ?m ?z ?z2 ?x ?_ ?y; (case N => k_asm); (case m => k_mem); (case x => exact rfl); (case z => decide); (case z2 => decide); (case y => with_unfolding_all rfl); k_whole); (try dsimp only)))
local macro_rules | `(tactic| walk_at "subscriptTail Name Constant ref int") => `(tactic| (k_here; (with_reducible show wpAny _ _ (subscriptTail _ _ (Value.ref _) (Value.int _ _)) _ _ _); k_dflt (refine' item_led ?N ?m ?z ?z2 ?x ?_ ?y; (case N => k_asm); (case m => k_mem); (case x => exact rfl); (case z => decide); (case z2 => decide); (case y => with_unfolding_all rfl); k_whole); (try dsimp only)))
local macro_rules | `(tactic| walk_at "binaryOp Pow int int") => `(tactic| (k_here; k_dflt (refine' pow_is ?e ?a ?b ?c ?_; (case e => with_reducible assumption); (case a => omega); (case b => omega); (case c => decide); k_whole); intro k9 t9; (try dsimp only)))
local macro_rules | `(tactic| walk_at "binaryOp FloorDiv int int") => `(tactic| (k_here; k_dflt (refine' fdiv_is ?e ?a ?b ?_; (case e => with_reducible assumption); (case a => decide); (case b => decide); k_whole); intro k9 t9; (try dsimp only)))
local macro_rules | `(tactic| walk_at "call builtin:divmod") => `(tactic| (k_here; k_dflt (refine' divmod_K ?e ?f ?F ?N ?a ?b ?_; (case e => with_reducible assumption); (case f => with_reducible assumption); (case F => k_asm); (case N => k_asm); (case a => omega); (case b => omega); k_whole); intro D9 t9 u9 h9 k9 F9 N9 l9; (try k_lt l9); (try dsimp only)))
theorem law_draw_b (pen : Addr) (p0 p1 p2 many q r : Int) (t0 t1 t2 u : Tok) (n : Nat) (hne : ∀ p ∈ led, p.1 ≠ pen) (h0 : ¬ p0 = 0) (e1 : p0.fdiv many = q) (e2 : p0.fmod many = r) (h6 : 2 ≤ many) (h7 : many ≤ 10 ^ 18) : Con w loose mean mg mb 719 6 [.ref pen, .int many u] ((pen, W.listOf #[.int p0 t0, .int p1 t1, .int p2 t2] n) :: led) (fun rv l' => ∃ t r0 r1, rv = .int r t ∧ l' = (pen, W.listOf #[.int q r0, .int p1 r1, .int p2 t2] n) :: led) := by
  unfold Con
  k_fill
  intro dp un gd cn cs a ccd cl outer A₀ base h₀ L m s Q E B F X N T hkf hd hu ret
  have h0b : (p0 == 0) = false := beq_eq_false_iff_ne.mpr h0
  refine wpAny_call ?_
  k_dflt (refine' code_def (binds := [("pen", Value.ref pen), ("many", Value.int many u)]) ?k1 ?k2 ?k3 ?k4 ?k5 ?kA ?kF ?kK ?k6 ?k7 ?k8 ?k9 ?kB ?_ ?c2 ?c3 ?c4 ?c5; (case kA => exact rfl); (case kF => exact rfl); (case kK => first | assumption | exact rfl); (case k1 => k_asm); (case k2 => k_asm); (case k3 => k_asm); (case k4 => k_asm); (case k5 => k_asm); (case k6 => k_is); (case k7 => k_is); (case k8 => ktr_room); (case k9 => first | exact BindsTo.of_eq rfl | exact kp_binds (by k_in) (fun _ => by kernel_rfl)); (case c5 => decide); (case kB => exact locs rfl); (case c2 => exact rfl); (case c3 => exact rfl); (case c4 => exact rfl); k_whole; intro g' L' h' FG' F' N' B' X' T'; (try dsimp only); (try k_lift B'); (try k_fold))
  k_steps
  all_goals exact ret _ ((pen, _) :: led) _ _ (by k_asm) (by exact news_sub (by k_asm) (fun p h => .tail _ h)) ⟨_, _, _, rfl, rfl⟩
theorem law_draw_a (pen : Addr) (p1 p2 many pw z q r : Int) (t0 t1 t2 u : Tok) (n : Nat) (hne : ∀ p ∈ led, p.1 ≠ pen) (h2 : 0 ≤ p1) (h3 : p1 ≤ 8) (h4 : 0 ≤ p2) (h5 : p2 < 999979) (e3 : 9941 ^ (21 + (p1 + 1)).toNat = pw) (e4 : ((2 * p2 + 3) * pw).fdiv 15625 = z) (e1 : z.fdiv many = q) (e2 : z.fmod many = r) (h6 : 2 ≤ many) (h7 : many ≤ 10 ^ 18) : Con w loose mean mg mb 719 6 [.ref pen, .int many u] ((pen, W.listOf #[.int 0 t0, .int p1 t1, .int p2 t2] n) :: led) (fun rv l' => ∃ t r0 r1, rv = .int r t ∧ l' = (pen, W.listOf #[.int q r0, .int (p1 + 1) r1, .int p2 t2] n) :: led) := by
  unfold Con
  k_fill
  intro dp un gd cn cs a ccd cl outer A₀ base h₀ L m s Q E B F X N T hkf hd hu ret
  refine wpAny_call ?_
  k_dflt (refine' code_def (binds := [("pen", Value.ref pen), ("many", Value.int many u)]) ?k1 ?k2 ?k3 ?k4 ?k5 ?kA ?kF ?kK ?k6 ?k7 ?k8 ?k9 ?kB ?_ ?c2 ?c3 ?c4 ?c5; (case kA => exact rfl); (case kF => exact rfl); (case kK => first | assumption | exact rfl); (case k1 => k_asm); (case k2 => k_asm); (case k3 => k_asm); (case k4 => k_asm); (case k5 => k_asm); (case k6 => k_is); (case k7 => k_is); (case k8 => ktr_room); (case k9 => first | exact BindsTo.of_eq rfl | exact kp_binds (by k_in) (fun _ => by kernel_rfl)); (case c5 => decide); (case kB => exact locs rfl); (case c2 => exact rfl); (case c3 => exact rfl); (case c4 => exact rfl); k_whole; intro g' L' h' FG' F' N' B' X' T'; (try dsimp only); (try k_lift B'); (try k_fold))
  k_steps
  all_goals exact ret _ ((pen, _) :: led) _ _ (by k_asm) (by exact news_sub (by k_asm) (fun p h => .tail _ h)) ⟨_, _, _, rfl, rfl⟩
def Drawn (pen : Addr) (p1 p2 many : Int) (t2 : Tok) (n : Nat) (led : Led) (rv : Value) (l' : Led) : Prop := ∃ q q1 r t r0 r1, rv = .int r t ∧ (0 ≤ r ∧ r < many) ∧ l' = (pen, W.listOf #[.int q r0, .int q1 r1, .int p2 t2] n) :: led ∧ 0 ≤ q ∧ 0 ≤ q1 ∧ q1 ≤ p1 + 1
theorem law_draw_ok (pen : Addr) (p0 p1 p2 many : Int) (t0 t1 t2 u : Tok) (n : Nat) (hne : ∀ p ∈ led, p.1 ≠ pen) (h0 : 0 ≤ p0) (h2 : 0 ≤ p1) (h3 : p1 ≤ 8) (h4 : 0 ≤ p2) (h5 : p2 < 999979) (h6 : 2 ≤ many) (h7 : many ≤ 10 ^ 18) :
    Con w loose mean mg mb 719 6 [.ref pen, .int many u] ((pen, W.listOf #[.int p0 t0, .int p1 t1, .int p2 t2] n) :: led) (Drawn pen p1 p2 many t2 n led) := by
  by_cases e : p0 = 0
  · subst e
    have hpw : 0 ≤ (9941 : Int) ^ (21 + (p1 + 1)).toNat := Int.pow_nonneg (by decide)
    have hz : 0 ≤ ((2 * p2 + 3) * 9941 ^ (21 + (p1 + 1)).toNat).fdiv 15625 := by
      rw [Int.fdiv_eq_ediv_of_nonneg _ (by decide)]
      exact Int.ediv_nonneg (Int.mul_nonneg (by omega) hpw) (by decide)
    refine con_post (law_draw_a pen p1 p2 many _ _ _ _ t0 t1 t2 u n hne h2 h3 h4 h5 rfl rfl rfl rfl h6 h7) ?_
    rintro rv l' ⟨t, r0, r1, rfl, rfl⟩
    refine ⟨_, _, _, t, r0, r1, rfl, ?_, rfl, ?_, by omega, by omega⟩
    · rw [Int.fmod_eq_emod_of_nonneg _ (by omega)]
      exact ⟨Int.emod_nonneg _ (by omega), Int.emod_lt_of_pos _ (by omega)⟩
    · rw [Int.fdiv_eq_ediv_of_nonneg _ (by omega)]
      exact Int.ediv_nonneg hz (by omega)
  · refine con_post (law_draw_b pen p0 p1 p2 many _ _ t0 t1 t2 u n hne e rfl rfl h6 h7) ?_
    rintro rv l' ⟨t, r0, r1, rfl, rfl⟩
    refine ⟨_, _, _, t, r0, r1, rfl, ?_, rfl, ?_, h2, by omega⟩
    · rw [Int.fmod_eq_emod_of_nonneg _ (by omega)]
      exact ⟨Int.emod_nonneg _ (by omega), Int.emod_lt_of_pos _ (by omega)⟩
    · rw [Int.fdiv_eq_ediv_of_nonneg _ (by omega)]
      exact Int.ediv_nonneg h0 (by omega)
end
end
theorem flush_43 : True := by
  w_top off
  first | walk1 | trivial
section
open PySem PySem.W PyProof.Rows PySem.Calls
set_option Elab.async false
set_option maxRecDepth 100000
set_option maxHeartbeats 0
section
variable {w : World} {loose : List Str} {mean : ExcName → Option Value} {mg mb : Str → Option Value} {led : Led}
def ConL (w : World) (loose : List Str) (mean : ExcName → Option Value) (mg mb : Str → Option Value) (sc : Addr) (vs : List Value) (f : Addr) (dep : Nat) (args : List Value) (led : Led) (post : Value → Led → Prop) : Prop :=
  ∀ (dp un : Nat) (gd : Option (List Code)) (cn : Str) (cs : Scope) (a : Addr) (ccd : Value) (cl : List (Str × Addr)) (outer : List Env) (A₀ : Around) (base h₀ : Heap) (L : Addr) (m : Str → Option Value) (s : Shared) (Q E : Value → Shared → Prop),
    Below A₀ base outer h₀ → Fr h₀ L s.heap m → (hk.heap_1 w.params).In h₀ → News h₀ L s.heap led → Top topProg loose mean mg mb h₀ → cs.kind = .function → dp + dep < recursionLimit → un + 8 * dep < cLine → h₀.IsList sc vs.toArray →
    (∀ r led' h' tk', Fr h₀ L h' m → News h₀ L h' led' → post r led' → Q r { s with heap := h', toks := tk' }) →
    wpAny (model row0.prog w) (ktrTop dp un gd cn cs L a ccd cl outer) (call (.ref f) args) Q E s
theorem fmod_nn {x b : Int} (h : 0 < b) : 0 ≤ x.fmod b := by rw [Int.fmod_eq_emod_of_nonneg _ (Int.le_of_lt h)]; exact Int.emod_nonneg _ (Int.ne_of_gt h)
def IntsRest (news : Led) (Inv : (Str → Option Value) → Prop) (m : Str → Option Value) (n : Led) : Prop := n = news ∧ Inv m
theorem ints_rest {prog : Program} {w : World} {A : Around} {E : Value → Shared → Prop} {s : Shared} {env : Env} {h₀ : Heap} {x : Str} {body : List Stmt} {Q : Flow → Shared → Prop} {I : Addr} {lp : Addr × Obj} {news : Led} (Inv : (Str → Option Value) → Prop) (hlp : lp ∈ news)
    (turn : ∀ z t m it h tk, Inv m → it.cls = .type "list_iterator" → Fr h₀ env.locals h (fun y => if y = x then some (.int z t) else m y) → News h₀ env.locals h ((I, it) :: news) →
      wpAny (model prog w) A (execs body env) (UnrPost h₀ env.locals { s with heap := h, toks := tk } I it (IntsRest news Inv) Q) E { s with heap := h, toks := tk })
    (fin : ∀ m h tk, Inv m → Fr h₀ env.locals h m → News h₀ env.locals h news → Q .next { s with heap := h, toks := tk }) :
    ∀ {vs : List Value} {xs : List Int}, IntsAre vs xs → ∀ m, Inv m → ListRest prog w A E h₀ env x body Q s I lp vs m news := by
  intro vs xs hI
  induction hI with
  | nil => exact fun m hm => ListRest.zero fun h tk F N => fin m h tk hm F N
  | @cons z t r ns hr ih =>
    refine fun m hm => ListRest.succ fun it h tk hc F N => wpAny_mono (turn z t m it h tk hm hc F N) (fun f s₂ p => ?_) fun _ _ e => e
    have conv : UnrEnd h₀ env.locals { s with heap := h, toks := tk } I it (IntsRest news Inv) s₂ → UnrEnd h₀ env.locals { s with heap := h, toks := tk } I it (fun m' n' => lp ∈ n' ∧ ListRest prog w A E h₀ env x body Q s I lp r m' n') s₂ := by
      rintro ⟨h', tk', m', news', e, F', N', off, rfl, hm'⟩
      exact ⟨h', tk', m', _, e, F', N', off, hlp, ih m' hm'⟩
    cases f with
    | ret v => exact p
    | brk => exact p
    | next => exact conv p
    | cont => exact conv p
local macro_rules | `(tactic| walk_at "exec For") => `(tactic| (k_here; (rename Fr _ _ _ _ => lF'); (with_unfolding_all refine' For_invVF lF' ?k1 ?k2 ?_; (case k1 => exact rfl); (case k2 => exact rfl); k_whole)))
local macro_rules | `(tactic| walk_at "pyIter ref") => `(tactic| (k_here; refine holdW ?_))
theorem law_pen_ok (sc : Addr) (vs : List Value) (xs : List Int) (hI : IntsAre vs xs) (hlen : xs.length ≤ 63) : ConL w loose mean mg mb sc vs 712 6 [.ref sc] led (fun r l' => ∃ D p0 p2 t0 t1 t2, r = .ref D ∧ l' = (D, W.listOf #[.int p0 t0, .int 0 t1, .int p2 t2] 0) :: led ∧ (∀ p ∈ led, p.1 < D) ∧ 0 ≤ p0 ∧ 0 ≤ p2 ∧ p2 < 999979) := by
  unfold ConL
  k_fill
  intro dp un gd cn cs a ccd cl outer A₀ base h₀ L m s Q E B F X N T hkf hd hu hl ret
  refine wpAny_call ?_
  k_dflt (refine' code_def (binds := [("script", Value.ref sc)]) ?k1 ?k2 ?k3 ?k4 ?k5 ?kA ?kF ?kK ?k6 ?k7 ?k8 ?k9 ?kB ?_ ?c2 ?c3 ?c4 ?c5; (case kA => exact rfl); (case kF => exact rfl); (case kK => first | assumption | exact rfl); (case k1 => k_asm); (case k2 => k_asm); (case k3 => k_asm); (case k4 => k_asm); (case k5 => k_asm); (case k6 => k_is); (case k7 => k_is); (case k8 => ktr_room); (case k9 => first | exact BindsTo.of_eq rfl | exact kp_binds (by k_in) (fun _ => by kernel_rfl)); (case c5 => decide); (case kB => exact locs rfl); (case c2 => exact rfl); (case c3 => exact rfl); (case c4 => exact rfl); k_whole; intro g' L' h' FG' F' N' B' X' T'; (try dsimp only); (try k_lift B'); (try k_fold))
  have hl' := FG'.lst hl
  k_steps
  refine iter_listUnr (by exact rfl) (by k_asm) (by k_asm) (by k_mem) (by rfl) (by rfl) ?_
  intro I9 l9
  refine ints_rest (fun m2 => ∃ (num : Int) (t : Tok) (c : Option Value), m2 = (fun z => if z = Str.ofString "number" then some (.int num t) else if z = Str.ofString "cell" then c else List.lookup z [(Str.ofString "script", Value.ref sc)].reverse) ∧ 0 ≤ num) (by k_mem) ?turn ?fin (by assumption) _ ?start
  case start => exact ⟨11, _, none, map_start rfl, by decide⟩
  case turn =>
    rintro z t m2 it h2 tk2 ⟨num, u2, c, rfl, h0⟩ hc F2 N2
    repeat (first | (k_unfold; (try dsimp only)) | (k_end; wrow_close) | (walk1; (try dsimp only)) | (dsimp only; walk1) | (leave1; (try dsimp only)))
    exact UnrEnd.intro (by k_asm) (by k_asm) _ (fun p h => h) (fun p hp => Nat.ne_of_lt (l9 p hp)) ⟨rfl, _, _, _, map_turn, Int.add_nonneg (Int.mul_nonneg h0 (by decide)) (fmod_nn (Int.pow_pos (by decide)))⟩
  case fin =>
    rintro m2 h2 tk2 ⟨num, u2, c, rfl, h0⟩ F2 N2
    k_steps
    exact ret _ ((_, W.listOf #[.int num u2, .int 0 _, .int (num.fmod 999979) _] 0) :: led) _ _ (by k_asm) (by exact news_sub (by k_asm) (sub_both (fun p h => .tail _ h))) ⟨_, num, _, _, _, _, rfl, rfl, ktn_ltOf (And.right (by assumption)), h0, by rw [Int.fmod_eq_emod_of_nonneg _ (by decide)]; exact Int.emod_nonneg _ (by decide), by rw [Int.fmod_eq_emod_of_nonneg _ (by decide)]; exact Int.emod_lt_of_pos _ (by decide)⟩
end
end
theorem flush_44 : True := by
  w_top off
  first | walk1 | trivial
section
open PySem PySem.W PyProof.Rows PySem.Calls
local macro_rules | `(tactic| k_all) => `(tactic| first | with_reducible assumption | exact ne_of_allLt (by assumption) | exact ne_of_allLt (And.right (by assumption)) | exact ne_of_allLt (And.right (And.right (by assumption))) | exact ne_of_allLt (And.right (And.right (And.right (by assumption)))) | exact ne_of_allLt (And.right (And.right (And.right (And.right (by assumption))))))
section
open PySem PySem.W PyProof.Rows PySem.Calls
set_option Elab.async false
set_option maxRecDepth 100000
set_option maxHeartbeats 0
section
variable {w : World} {loose : List Str} {mean : ExcName → Option Value} {mg mb : Str → Option Value} {led : Led}
theorem ne_of_allLt {d : Addr} : ∀ {l : Led}, AllLt d l → ∀ p ∈ l, p.1 ≠ d
  | [], _, _, h => nomatch h
  | _ :: _, x, p, h => by
    rcases List.mem_cons.mp h with rfl | h
    · exact Nat.ne_of_lt x.1
    · exact ne_of_allLt x.2 p h
theorem LastTok.more {w : World} {led led' : Led} {vs : List Value} (h : LastTok w led vs) (hs : ∀ p ∈ led, p ∈ led') : LastTok w led' vs := by
  rcases h with h | ⟨pre, b, d, at', k, wd, t1, t2, t3, t4, t5, t6, e, h1, h2, h3⟩
  · exact .inl h
  · exact .inr ⟨pre, b, d, at', k, wd, t1, t2, t3, t4, t5, t6, e, hs _ h1, hs _ h2, h3⟩
theorem start_map {t : Tok} {v1 v2 : Value} (z : Str) : (if z = Str.ofString "was_is" then some (Value.bool false) else if z = Str.ofString "at" then some (Value.int 0 t) else List.lookup z [(Str.ofString "tokens", v1), (Str.ofString "line", v2)].reverse) =
    if z = Str.ofString "at" then some (.int ((0 : Nat) : Int) t) else if z = Str.ofString "was_is" then some (.bool false) else if ([Str.ofString "place", Str.ofString "kind", Str.ofString "worth", Str.ofString "end"] : List Str).contains z then none else List.lookup z [(Str.ofString "tokens", v1), (Str.ofString "line", v2)].reverse := by
  by_cases h1 : z = Str.ofString "at"
  · subst h1; rfl
  · by_cases h2 : z = Str.ofString "was_is"
    · subst h2; rfl
    · rw [if_neg h2, if_neg h1, if_neg h1, if_neg h2]
      split
      · rename_i h
        simp only [List.contains_cons, List.contains_nil, Bool.or_false, Bool.or_eq_true, beq_iff_eq] at h
        rcases h with h | h | h | h <;> subst h <;> rfl
      · rfl
theorem sub_rot {a b c d : Addr × Obj} {r : Led} {p : Addr × Obj} (h : p ∈ d :: a :: b :: c :: r) : p ∈ a :: b :: c :: d :: r := by
  simp only [List.mem_cons] at h ⊢
  rcases h with h | h | h | h | h
  · exact .inr (.inr (.inr (.inl h)))
  · exact .inl h
  · exact .inr (.inl h)
  · exact .inr (.inr (.inl h))
  · exact .inr (.inr (.inr (.inr h)))
theorem news_turn {h₀ h : Heap} {L l n : Nat} {a b c : Addr × Obj} {r : Led} {vs : List Value} {x : Value} (N : News h₀ L h (a :: b :: c :: (l, W.listOf (vs.toArray.push x) n) :: r)) : News h₀ L h ((l, W.listOf (vs ++ [x]).toArray n) :: a :: b :: c :: r) := by
  rw [← List.push_toArray]
  exact news_sub N fun p hp => sub_rot hp
theorem turn_map {v1 v2 v3 v4 v5 v6 v7 : Option Value} {q2 : Option Value} {m2 B : Str → Option Value} (z : Str) :
    (if z = Str.ofString "at" then v1 else if z = Str.ofString "was_is" then v2 else if z = Str.ofString "end" then v3 else if z = Str.ofString "worth" then v4 else if z = Str.ofString "kind" then v5 else if z = Str.ofString "place" then v6 else if z = Str.ofString "at" then v7 else if z = Str.ofString "was_is" then q2 else if ([Str.ofString "place", Str.ofString "kind", Str.ofString "worth", Str.ofString "end"] : List Str).contains z then m2 z else B z) =
    if z = Str.ofString "at" then v1 else if z = Str.ofString "was_is" then v2 else if ([Str.ofString "place", Str.ofString "kind", Str.ofString "worth", Str.ofString "end"] : List Str).contains z then (if z = Str.ofString "end" then v3 else if z = Str.ofString "worth" then v4 else if z = Str.ofString "kind" then v5 else if z = Str.ofString "place" then v6 else none) else B z := by
  by_cases h1 : z = Str.ofString "at"
  · rw [if_pos h1, if_pos h1]
  · by_cases h2 : z = Str.ofString "was_is"
    · rw [if_neg h1, if_pos h2, if_neg h1, if_pos h2]
    · rw [if_neg h1, if_neg h2, if_neg h1, if_neg h2, if_neg h1, if_neg h2]
      by_cases h : (([Str.ofString "place", Str.ofString "kind", Str.ofString "worth", Str.ofString "end"] : List Str).contains z) = true
      · rw [if_pos h, if_pos h]
        have h' := h
        simp only [List.contains_cons, List.contains_nil, Bool.or_false, Bool.or_eq_true, beq_iff_eq] at h'
        by_cases a3 : z = Str.ofString "end"
        · rw [if_pos a3, if_pos a3]
        · by_cases a4 : z = Str.ofString "worth"
          · rw [if_neg a3, if_pos a4, if_neg a3, if_pos a4]
          · by_cases a5 : z = Str.ofString "kind"
            · rw [if_neg a3, if_neg a4, if_pos a5, if_neg a3, if_neg a4, if_pos a5]
            · have a6 : z = Str.ofString "place" := by
                rcases h' with h' | h' | h' | h'
                · exact h'
                · exact absurd h' a5
                · exact absurd h' a4
                · exact absurd h' a3
              rw [if_neg a3, if_neg a4, if_neg a5, if_pos a6, if_neg a3, if_neg a4, if_neg a5, if_pos a6]
      · rw [if_neg h, if_neg h]
        simp only [List.contains_cons, List.contains_nil, Bool.or_false, Bool.or_eq_true, beq_iff_eq, not_or] at h
        rw [if_neg h.2.2.2, if_neg h.2.2.1, if_neg h.2.1, if_neg h.1]
theorem fr_at {h₀ h : Heap} {L : Addr} {i : Nat} {t : Tok} {q : Option Value} {M : Str → Option Value}
    (F : Fr h₀ L h (fun y => if y = Str.ofString "at" then some (.int ((i : Int) + 1) t) else if y = Str.ofString "at" then q else M y)) :
    Fr h₀ L h (fun z => if z = Str.ofString "at" then some (.int ((i + 1 : Nat) : Int) t) else M z) := by
  refine fr_map F ?_
  intro z
  by_cases hz1 : z = Str.ofString "at"
  · simp only [hz1, if_true]
    rfl
  · simp only [hz1, if_false]
theorem item_place {prog : Program} {A : Around} {E : Value → Shared → Prop} {s : Shared} {h₀ : Heap} {L pl : Addr} {pits : List Value} {np i : Nat} {x : Value} {value slice : PySem.Expr} {u : Tok} {Q : Value → Shared → Prop}
    (N : News h₀ L s.heap led) (hm : (pl, W.listOf pits.toArray np) ∈ led) (hk : i ≤ 1000) (hx : pits[i]? = some x) (h : Q x s)
    (hs : subscripted slice false (.ref pl) (.int (i : Int) u) = operate [.ref pl, .int (i : Int) u] (getItem (.ref pl) (.int (i : Int) u)) := by with_unfolding_all rfl) : wpAny (model prog w) A (subscriptTail value slice (.ref pl) (.int (i : Int) u)) Q E s :=
  item_led N hm (by omega) (by omega) (by simpa using hx) h hs
local macro_rules | `(tactic| walk_at "exec While Compare") => `(tactic| (k_here; refine wpAny_While ?_))
local macro_rules | `(tactic| walk_at "subscriptTail") => `(tactic| (k_here; (with_reducible show wpAny _ _ (subscriptTail _ _ (Value.ref _) (Value.int (Nat.cast _) _)) _ _ _); k_dflt (refine' item_place ?N ?m ?z ?x ?_ ?y; (case N => k_asm); (case m => k_mem); (case x => with_reducible assumption); (case z => omega); (case y => with_unfolding_all rfl); k_whole)))
def AtInv (w : World) (s : Shared) (g' : Heap) (L' l ln : Addr) (led : Led) (x : Str) (its : List It) (items : List It) (s₂ : Shared) : Prop := ∃ (hh : Heap) (tkk i : Nat) (t : Tok) (vs : List Value) (n : Nat) (led2 : Led) (m2 : Str → Option Value) (done : List (Str × Str)),
      s₂ = { s with heap := hh, toks := tkk } ∧ Fr g' L' hh (fun z => if z = Str.ofString "at" then some (.int (i : Int) t) else if z = Str.ofString "was_is" then some (.bool false) else if ([Str.ofString "place", Str.ofString "kind", Str.ofString "worth", Str.ofString "end"] : List Str).contains z then m2 z else List.lookup z [(Str.ofString "tokens", Value.ref l), (Str.ofString "line", Value.ref ln)].reverse) ∧
      News g' L' hh ((l, W.listOf vs.toArray n) :: led2) ∧ (∀ p ∈ led, p ∈ led2) ∧ (∀ p ∈ led2, p.1 ≠ l) ∧ TextFrom x i items ∧ LastTok w led2 vs ∧ Toks w led2 vs done ∧ done ++ toksOf items = toksOf its ∧ vs.length + (toksOf items).length ≤ 100
theorem AtInv.mk {w : World} {s : Shared} {g' : Heap} {L' l ln : Addr} {led : Led} {x : Str} {its items : List It} (hh : Heap) (tkk i : Nat) (t : Tok) (vs : List Value) (n : Nat) (led2 : Led) (m2 : Str → Option Value) (done : List (Str × Str)) (F2 : Fr g' L' hh (fun z => if z = Str.ofString "at" then some (.int (i : Int) t) else if z = Str.ofString "was_is" then some (.bool false) else if ([Str.ofString "place", Str.ofString "kind", Str.ofString "worth", Str.ofString "end"] : List Str).contains z then m2 z else List.lookup z [(Str.ofString "tokens", Value.ref l), (Str.ofString "line", Value.ref ln)].reverse)) (N2 : News g' L' hh ((l, W.listOf vs.toArray n) :: led2)) (hs2 : (∀ p ∈ led, p ∈ led2)) (hl2 : (∀ p ∈ led2, p.1 ≠ l)) (htx : TextFrom x i items) (hlast : LastTok w led2 vs) (htk : Toks w led2 vs done) (hdone : done ++ toksOf items = toksOf its) (hz2 : vs.length + (toksOf items).length ≤ 100) : AtInv w s g' L' l ln led x its items { s with heap := hh, toks := tkk } :=
  ⟨hh, tkk, i, t, vs, n, led2, m2, done, rfl, F2, N2, hs2, hl2, htx, hlast, htk, hdone, hz2⟩
theorem AtInv.elim {w : World} {s : Shared} {g' : Heap} {L' l ln : Addr} {led : Led} {x : Str} {its items : List It} {s₂ : Shared} {P : Prop} (h : AtInv w s g' L' l ln led x its items s₂) (k : ∀ (hh : Heap) (tkk i : Nat) (t : Tok) (vs : List Value) (n : Nat) (led2 : Led) (m2 : Str → Option Value) (done : List (Str × Str)), s₂ = { s with heap := hh, toks := tkk } → Fr g' L' hh (fun z => if z = Str.ofString "at" then some (.int (i : Int) t) else if z = Str.ofString "was_is" then some (.bool false) else if ([Str.ofString "place", Str.ofString "kind", Str.ofString "worth", Str.ofString "end"] : List Str).contains z then m2 z else List.lookup z [(Str.ofString "tokens", Value.ref l), (Str.ofString "line", Value.ref ln)].reverse) → News g' L' hh ((l, W.listOf vs.toArray n) :: led2) → (∀ p ∈ led, p ∈ led2) → (∀ p ∈ led2, p.1 ≠ l) → TextFrom x i items → LastTok w led2 vs → Toks w led2 vs done → done ++ toksOf items = toksOf its → vs.length + (toksOf items).length ≤ 100 → P) : P :=
  let ⟨hh, tkk, i, t, vs, n, led2, m2, done, e, F2, N2, hs2, hl2, htx, hlast, htk, hdone, hz2⟩ := h; k hh tkk i t vs n led2 m2 done e F2 N2 hs2 hl2 htx hlast htk hdone hz2
theorem add_tokens_ok (l pl0 : Addr) (n0 np : Nat) (its : List It) (pits : List Value) (ln dx pl : Addr) (tk tk1 tk2 : Tok) (x : Str) (h1 : (ln, instObj 162 dx) ∈ led) (h2 : (dx, lineObj w tk tk1 tk2 x pl) ∈ led) (hl : ∀ p ∈ led, p.1 ≠ l) (hp : (pl, W.listOf pits.toArray np) ∈ led) (hpp : ∀ i, i < x.length → PlaceAt led pits i) (hlen : x.length ≤ 200) (hx : Low x) (ht : TextFrom x 0 its) (hz : (toksOf its).length ≤ 50) : Con w loose mean mg mb 325 20 [.ref l, .ref ln] ((l, W.listOf #[] n0) :: led) (fun r l' => r = .none ∧ ∃ vs n led2, l' = (l, W.listOf vs.toArray n) :: led2 ∧ (∀ p ∈ led, p ∈ led2) ∧ (∀ p ∈ led2, p.1 ≠ l) ∧ Toks w led2 vs (toksOf its)) := by
  unfold Con
  k_fill
  intro dp un gd cn cs a ccd cl outer A₀ base h₀ L m s Q E B F X N T hkf hd hu ret
  refine wpAny_call ?_
  k_dflt (refine' code_def (binds := [("tokens", Value.ref l), ("line", Value.ref ln)]) ?k1 ?k2 ?k3 ?k4 ?k5 ?kA ?kF ?kK ?k6 ?k7 ?k8 ?k9 ?kB ?_ ?c2 ?c3 ?c4 ?c5; (case kA => exact rfl); (case kF => exact rfl); (case kK => first | assumption | exact rfl); (case k1 => k_asm); (case k2 => k_asm); (case k3 => k_asm); (case k4 => k_asm); (case k5 => k_asm); (case k6 => k_is); (case k7 => k_is); (case k8 => ktr_room); (case k9 => first | exact BindsTo.of_eq rfl | exact kp_binds (by k_in) (fun _ => by kernel_rfl)); (case c5 => decide); (case kB => exact locs rfl); (case c2 => exact rfl); (case c3 => exact rfl); (case c4 => exact rfl); k_whole; intro g' L' h' FG' F' N' B' X' T'; (try dsimp only); (try k_lift B'); (try k_fold))
  k_steps
  refine while_items (by passes_own) (AtInv w s g' L' l ln led x its) ?turn ?stop its _ ?start
  case start =>
    exact AtInv.mk _ _ 0 _ [] n0 led (fun _ => none) [] (fr_map (by k_asm) start_map) (by k_asm) (fun p h => h) hl ht (.inl rfl) .nil rfl (by simp; omega)
  case stop =>
    intro s₂ hI
    refine AtInv.elim hI fun hh tkk i t vs n led2 m2 done eI F2 N2 hs2 hl2 htx hlast htk hdone hz2 => ?_
    subst eI
    have hi : i = x.length := htx
    have h1' := hs2 _ h1
    have h2' := hs2 _ h2
    k_steps
    refine WhlIf.no (by simp [hi]) ?_
    k_steps
    exact ret _ _ _ _ (by k_asm) (by k_asm) ⟨rfl, vs, n, led2, rfl, hs2, hl2, by
      have e : toksOf [] = [] := rfl
      rw [e, List.append_nil] at hdone
      rw [← hdone]; exact htk⟩
  case turn =>
    intro it rest s₂ hI
    refine AtInv.elim hI fun hh tkk i t vs n led2 m2 done eI F2 N2 hs2 hl2 htx hlast htk hdone hz2 => ?_
    subst eI
    have h1' := hs2 _ h1
    have h2' := hs2 _ h2
    have hp' := hs2 _ hp
    cases it with
    | blank =>
      have hi := htx.1
      have hc := htx.2.1
      have htx := htx.2.2
      k_steps
      refine WhlIf.yes (by simp; omega) ?_
      repeat (first | (k_unfold; (try dsimp only)) | (k_end; wrow_close) | walk1 | (dsimp only; walk1) | (leave1; (try dsimp only)))
      refine useN (by k_asm) (by k_asm) (by k_asm) (by k_asm) (by k_asm) (by first | exact rfl | assumption) (is_blank_yes x i _ _ hlen hi hc) (by ktr_room) (by ktr_units) ?_
      intro t9 h9 tk9 F9 N9
      (try dsimp only)
      (try k_fold)
      repeat (first | (k_unfold; (try dsimp only)) | (k_end; wrow_close) | walk1 | (dsimp only; walk1) | (leave1; (try dsimp only)))
      k_steps
      dsimp only [Turned]
      exact AtInv.mk _ _ (i + 1) _ vs n led2 m2 done (fr_at (by k_asm)) (by k_asm) hs2 hl2 htx hlast htk hdone hz2
    | tok k wd e =>
      have hw := htx.1
      have htx := htx.2
      have hi := worthAt_lt hw
      obtain ⟨ch, hch, hc⟩ := worthAt_char hw
      obtain ⟨pb, pt1, pt2, hx1, hm1⟩ := hpp i hi
      have hm1' := hs2 _ hm1
      have hlt : vs.length ≤ 99 := by
        have e1 : (toksOf (It.tok k wd e :: rest)).length = (toksOf rest).length + 1 := rfl
        omega
      have hlast' : LastTok w ((l, W.listOf vs.toArray n) :: led2) vs := hlast.more (fun p h => List.mem_cons_of_mem _ h)
      k_steps
      refine WhlIf.yes (by simp; omega) ?_
      k_steps
      refine useN (by k_asm) (by k_asm) (by k_asm) (by k_asm) (by k_asm) (by first | exact rfl | assumption) (is_blank_no x i ch _ _ hlen hi hch hc) (by ktr_room) (by ktr_units) ?_
      intro t9 h9 tk9 F9 N9
      (try dsimp only)
      (try k_fold)
      k_steps
      refine useN (by k_asm) (by k_asm) (by k_asm) (by k_asm) (by k_asm) (by first | exact rfl | assumption) (is_picture_next_ok l n vs (.head _) hlast' (by omega)) (by ktr_room) (by ktr_units) ?_
      intro t9 h9 tk9 F9 N9
      (try dsimp only)
      (try k_fold)
      k_steps
      refine useN (by k_asm) (by k_asm) (by k_asm) (by k_asm) (by k_asm) (by first | exact rfl | assumption) (is_picture_next_ok l n vs (.head _) hlast' (by omega)) (by ktr_room) (by ktr_units) ?_
      intro t9 h9 tk9 F9 N9
      (try dsimp only)
      (try k_fold)
      k_steps
      refine useTN (by k_asm) (by k_asm) (by k_asm) (by k_asm) (by k_asm) (by first | exact rfl | assumption) (worth_at_ok ln dx pl _ tk1 tk2 x (.tail _ h1') (.tail _ h2') i e k wd _ hlen hx hw) (by ktr_room) (by ktr_units) ?_
      intro D9 t9 u9 v9 h9 tk9 F9 N9 l9
      k_lt l9
      (try dsimp only)
      (try k_fold)
      k_steps
      have hb : decide (12 + (i : Int) ≤ 11) = false := decide_eq_false (by omega)
      rw [hb]
      k_dflt (refine' call_cls ?k1 ?k2 ?k3 ?k4 ?k5 ?k6 ?_; (case k1 => k_asm); (case k2 => k_asm); (case k3 => k_asm); (case k4 => k_is); (case k5 => k_is); (case k6 => k_is); k_whole; intro xo do9 ho Fo No lo1 lo2; (try k_lt lo1); (try k_lt2 lo2); (try k_sweep))
      k_dflt (refine' code_def (binds := [("self", Value.ref xo), ("kind", Value.str k t9), ("worth", Value.str wd u9), ("at", Value.ref pb), ("is_in_a", Value.bool false)]) ?k1 ?k2 ?k3 ?k4 ?k5 ?kA ?kF ?kK ?k6 ?k7 ?k8 ?k9 ?kB ?_ ?c2 ?c3 ?c4 ?c5; (case kA => exact rfl); (case kF => exact rfl); (case kK => first | assumption | exact rfl); (case k1 => k_asm); (case k2 => k_asm); (case k3 => k_asm); (case k4 => k_asm); (case k5 => k_asm); (case k6 => k_is); (case k7 => k_is); (case k8 => ktr_room); (case k9 => first | exact BindsTo.of_eq rfl | exact kp_binds (by k_in) (fun _ => by kernel_rfl)); (case c5 => decide); (case kB => exact locs rfl); (case c2 => exact rfl); (case c3 => exact rfl); (case c4 => exact rfl); k_whole; intro g' L' h' FG' F' N' B' X' T'; (try dsimp only); (try k_lift B'); (try k_fold))
      k_steps
      dsimp only [Turned]
      refine AtInv.mk _ _ e _ (vs ++ [Value.ref xo]) (n + 1) (_ :: _ :: _ :: led2) _ (done ++ [(k, wd)]) (fr_map (by k_asm) turn_map) (news_turn (by k_asm)) ?s1 ?s2 htx ?s3 ?s4 ?s5 ?s6
      case s1 => exact fun p h => .tail _ (.tail _ (.tail _ (hs2 p h)))
      case s2 =>
        intro p h
        rcases List.mem_cons.mp h with rfl | h
        · exact Nat.ne_of_gt (Nat.lt_trans lo1.2.1 lo2)
        · rcases List.mem_cons.mp h with rfl | h
          · exact Nat.ne_of_gt lo1.2.1
          · rcases List.mem_cons.mp h with rfl | h
            · exact Nat.ne_of_gt l9.1
            · exact hl2 p h
      case s3 => exact .inr ⟨vs, xo, do9, pb, k, wd, _, _, _, _, _, _, rfl, .head _, .tail _ (.head _), worthAt_noPic hw⟩
      case s4 => exact .snoc (htk.mono fun p h => .tail _ (.tail _ (.tail _ h))) ⟨xo, do9, pb, _, _, _, _, _, _, rfl, .head _, .tail _ (.head _)⟩
      case s5 =>
        rw [← hdone, List.append_assoc]; rfl
      case s6 =>
        have e1 : (toksOf (It.tok k wd e :: rest)).length = (toksOf rest).length + 1 := rfl
        rw [List.length_append, List.length_singleton]
        omega
end
end
theorem flush_45 : True := by
  w_top off
  first | walk1 | trivial
section
open PySem PySem.W PyProof.Rows PySem.Calls
set_option Elab.async false
set_option maxRecDepth 100000
set_option maxHeartbeats 0
section
variable {w : World} {loose : List Str} {mean : ExcName → Option Value} {mg mb : Str → Option Value} {led : Led}
theorem news_swap {h₀ h : Heap} {L : Addr} {a b : Addr × Obj} {r : Led} (N : News h₀ L h (a :: b :: r)) : News h₀ L h (b :: a :: r) := news_sub N fun p hp => by
  simp only [List.mem_cons] at hp ⊢
  rcases hp with h | h | h
  · exact .inr (.inl h)
  · exact .inl h
  · exact .inr (.inr h)
def Func (led : Led) : Prop := ∀ p ∈ led, ∀ q ∈ led, p.1 = q.1 → p.2 = q.2
theorem News.func {h₀ h : Heap} {L : Addr} {led : Led} (N : News h₀ L h led) : Func led := fun p hp q hq e => by
  have h1 := (N p hp).1
  have h2 := (N q hq).1
  rw [e, h2] at h1
  exact (Option.some.inj h1).symm
theorem TokAt.cls {w : World} {led led' : Led} {v : Value} {kw : Str × Str} (h : TokAt w led v kw) (hs : ∀ p ∈ led, (p.2.cls = .type "dict" ∨ ∃ c, p.2.cls = .ref c) → p ∈ led') : TokAt w led' v kw := by
  obtain ⟨b, d, at', t1, t2, t3, t4, t5, t6, e, h1, h2⟩ := h
  exact ⟨b, d, at', t1, t2, t3, t4, t5, t6, e, hs _ h1 (.inr ⟨_, rfl⟩), hs _ h2 (.inl rfl)⟩
theorem Toks.cls {w : World} {led led' : Led} {vs : List Value} {ts : List (Str × Str)} (h : Toks w led vs ts) (hs : ∀ p ∈ led, (p.2.cls = .type "dict" ∨ ∃ c, p.2.cls = .ref c) → p ∈ led') : Toks w led' vs ts := by
  induction h with
  | nil => exact .nil
  | snoc _ t ih => exact .snoc ih (t.cls hs)
theorem rest_it {led : Led} {I : Addr} {it : Obj} (hf : Func led) (hI : (I, it) ∈ led) (hc : it.cls = .type "list_iterator") : ∀ p ∈ led, (p.2.cls = .type "dict" ∨ ∃ c, p.2.cls = .ref c) → p ∈ led.filter (fun p => p.1 != I) := fun p hp h => mem_rest hp fun e => by
  have := hf p hp _ hI e
  rw [this] at h
  rcases h with h | ⟨c, h⟩
  · rw [hc] at h; exact absurd (Value.type.inj h) (by decide)
  · rw [hc] at h; cases h
theorem tok_end {h₀ : Heap} {L I l : Addr} {it o : Obj} {led2 : Led} {rest : (Str → Option Value) → Led → Prop} {s₁ : Shared} {h' : Heap} {tk : Nat} {m' : Str → Option Value} (F : Fr h₀ L h' m') (N : News h₀ L h' ((l, o) :: led2)) (hI : (I, it) ∈ led2) (hl : l ≠ I)
    (r : rest m' ((l, o) :: led2.filter (fun p => p.1 != I))) : UnrEnd h₀ L s₁ I it rest { s₁ with heap := h', toks := tk } :=
  UnrEnd.intro F N _ (fun p hp => by
    rcases List.mem_cons.mp hp with rfl | hp
    · exact .tail _ hI
    · rcases List.mem_cons.mp hp with rfl | hp
      · exact .head _
      · exact .tail _ (List.mem_filter.mp hp).1) (fun p hp => by
    rcases List.mem_cons.mp hp with rfl | hp
    · exact hl
    · exact rest_ne p hp) r
theorem PlaceAt.mono {led led' : Led} {pits : List Value} {i : Nat} (h : PlaceAt led pits i) (hs : ∀ p ∈ led, p ∈ led') : PlaceAt led' pits i :=
  let ⟨b, t1, t2, e, m⟩ := h; ⟨b, t1, t2, e, hs _ m⟩
local macro_rules | `(tactic| walk_at "exec For") => `(tactic| (k_here; (rename Fr _ _ _ _ => lF'); (with_unfolding_all refine' For_invVF lF' ?k1 ?k2 ?_; (case k1 => exact rfl); (case k2 => exact rfl); k_whole)))
local macro_rules | `(tactic| walk_at "pyIter ref") => `(tactic| (k_here; refine holdW ?_))
theorem tokens_of_ok (ls np nl : Addr) (its : List It) (pits : List Value) (ln dx pl : Addr) (tk tk1 tk2 : Tok) (x : Str) (h1 : (ln, instObj 162 dx) ∈ led) (h2 : (dx, lineObj w tk tk1 tk2 x pl) ∈ led) (hls : (ls, W.listOf #[.ref ln] nl) ∈ led) (hp : (pl, W.listOf pits.toArray np) ∈ led) (hpp : ∀ i, i < x.length → PlaceAt led pits i) (hlen : x.length ≤ 200) (hx : Low x) (ht : TextFrom x 0 its) (hz : (toksOf its).length ≤ 50) : Con w loose mean mg mb 339 24 [.ref ls] led (fun r l' => ∃ l vs n led2, r = .ref l ∧ l' = (l, W.listOf vs.toArray n) :: led2 ∧ (∀ p ∈ led, p ∈ led2) ∧ Toks w led2 vs (toksOf its)) := by
  unfold Con
  k_fill
  intro dp un gd cn cs a ccd cl outer A₀ base h₀ L m s Q E B F X N T hkf hd hu ret
  refine wpAny_call ?_
  k_dflt (refine' code_def (binds := [("lines", Value.ref ls)]) ?k1 ?k2 ?k3 ?k4 ?k5 ?kA ?kF ?kK ?k6 ?k7 ?k8 ?k9 ?kB ?_ ?c2 ?c3 ?c4 ?c5; (case kA => exact rfl); (case kF => exact rfl); (case kK => first | assumption | exact rfl); (case k1 => k_asm); (case k2 => k_asm); (case k3 => k_asm); (case k4 => k_asm); (case k5 => k_asm); (case k6 => k_is); (case k7 => k_is); (case k8 => ktr_room); (case k9 => first | exact BindsTo.of_eq rfl | exact kp_binds (by k_in) (fun _ => by kernel_rfl)); (case c5 => decide); (case kB => exact locs rfl); (case c2 => exact rfl); (case c3 => exact rfl); (case c4 => exact rfl); k_whole; intro g' L' h' FG' F' N' B' X' T'; (try dsimp only); (try k_lift B'); (try k_fold))
  k_steps
  with_unfolding_all refine iter_listUnr (vs := [_]) (by rfl) (by k_asm) (by k_asm) (by k_mem) (by rfl) (by rfl) ?_
  intro I9 l9
  k_steps
  refine useP (news_swap (by k_asm)) (by k_asm) (by k_asm) (by k_asm) (by k_asm) (by first | exact rfl | assumption) (add_tokens_ok _ 0 _ np its pits ln dx pl _ tk1 tk2 x (.tail _ h1) (.tail _ h2) ?hl (.tail _ hp) ?hpp hlen hx ht hz) (by ktr_room) (by ktr_units) ?_
  case hl =>
    intro p hp'
    rcases List.mem_cons.mp hp' with rfl | h
    · exact Nat.ne_of_gt (l9 _ (.head _))
    · exact Nat.ne_of_lt ((show ∀ p ∈ led, p.1 < _ from by first | assumption | exact ktn_ltOf (by assumption) | exact ktn_ltOf (And.right (by assumption)) | exact ktn_ltOf (And.right (And.right (by assumption)))) p h)
  case hpp => exact fun i hi => (hpp i hi).mono fun p h => .tail _ h
  rintro r9 led9 h9 tk9 F9 N9 ⟨rfl, vs, n, led2, rfl, hs2, hl2, htk⟩
  (try dsimp only)
  (try k_fold)
  k_steps
  have hf := News.func N9
  refine tok_end (by k_asm) (by k_asm) (hs2 _ (.head _)) (Nat.ne_of_lt (l9 _ (.head _))) ⟨.tail _ (mem_rest (hs2 _ (.tail _ hls)) (Nat.ne_of_lt (l9 _ (.tail _ hls)))), ?_⟩
  k_steps
  exact ret _ _ _ _ (by k_asm) (by k_asm) ⟨_, vs, n, _, rfl, rfl, fun p hp => mem_rest (hs2 _ (.tail _ hp)) (Nat.ne_of_lt (l9 _ (.tail _ hp))), htk.cls (rest_it (fun p hp q hq => hf p (.tail _ hp) q (.tail _ hq)) (hs2 _ (.head _)) (by assumption))⟩
end
end
theorem flush_46 : True := by
  w_top off
  first | walk1 | trivial
section
open PySem PySem.W PyProof.Rows PySem.Calls
set_option Elab.async false
set_option maxRecDepth 100000
set_option maxHeartbeats 0
open PyProof.Rows.LCg
section
variable {prog : Program} {w : World} {A : Around} {E : Value → Shared → Prop} {s : Shared} {h₀ : Heap} {L : Addr} {m : Str → Option Value} {env : Env}
def RangeSrc (prog : Program) (w : World) (A : Around) (h₀ : Heap) (L : Addr) (m : Str → Option Value) (env : Env) (elt : PySem.Expr) (x : Str) (scope : Scope) (cl : List (Str × Addr)) (Q : Value → Shared → Prop) (xv : Value) (s₁ : Shared) : Prop :=
  ∃ (r : Addr) (n : Nat) (t u v : Tok) (news : Led), xv = .ref r ∧ IsRange s₁.heap r 0 (n : Int) 1 t u v ∧ n ≤ 1000 ∧ A.handled = none ∧ Fr h₀ L s₁.heap m ∧ News h₀ L s₁.heap news ∧
      ∀ g, CompRest prog w A h₀ L m env elt x scope cl { s₁ with heap := g } (fun _ => True) (fun i v => i < n ∧ ∃ t, v = .int (0 + (i : Int) * 1) t) (FinE h₀ L m { s₁ with heap := g } Q) n 0 [] news
theorem RangeSrc.intro {elt : PySem.Expr} {x : Str} {scope : Scope} {cl : List (Str × Addr)} {Q : Value → Shared → Prop} {r : Addr} {n : Nat} {t u v : Tok} {news : Led} (hr : IsRange s.heap r 0 (n : Int) 1 t u v) (hn : n ≤ 1000) (hh : A.handled = none) (F : Fr h₀ L s.heap m) (N : News h₀ L s.heap news)
    (R : ∀ g, CompRest prog w A h₀ L m env elt x scope cl { s with heap := g } (fun _ => True) (fun i v => i < n ∧ ∃ t, v = .int (0 + (i : Int) * 1) t) (FinE h₀ L m { s with heap := g } Q) n 0 [] news) : RangeSrc prog w A h₀ L m env elt x scope cl Q (.ref r) s :=
  ⟨r, n, t, u, v, news, rfl, hr, hn, hh, F, N, R⟩
theorem comp_range {elt iter : PySem.Expr} {x : Str} {px : Pos} {scope : Scope} {cl : List (Str × Addr)} {pos : Pos} {Q : Value → Shared → Prop} (F₀ : Fr h₀ L s.heap m)
    (hclos : closureFor scope env = pure cl) (hcell : ∀ y ∈ scope.names, y.2 ≠ .cell) (hkind : scope.kind = .function)
    (hnames : ∀ y ∈ scope.names, y.2 = .local → scope.names.lookup y.1 = some .local) (hx : scope.names.lookup x = some .local)
    (h : wpAny (model prog w) A (eval iter env) (RangeSrc prog w A h₀ L m env elt x scope cl Q) E s)
    (hs : ∀ x, foldedSetIterable iter env x = pure x := by intro _; rfl) :
    wpAny (model prog w) A (eval (.ListComp elt [⟨.Name x px, iter, [], 0⟩] scope pos) env) Q E s := by
  rw [eval_ListComp]
  refine wpAny_comprehension_free (use := none) rfl hs hclos hkind hnames (wpAny_mono h (fun xv s₁ h₁ => ?_) fun _ _ e => e)
  obtain ⟨r, n, t, u, v, news, rfl, hr, hsz, hh, F, N, R⟩ := h₁
  have hsize := range_size hsz
  refine wpAny_pyIter_range hr (range_is_small hsz) ?_
  have up : ∀ b o, s₁.heap.get? b = some o → (s₁.heap.push { cls := .type "range_iterator", data := .fields #[rawInt 0, rawInt (Builtin.Range.rangeSize 0 (n : Int) 1), rawInt 1] }).get? b = some o := fun b o e => Heap.get?_push_of_some _ e
  have W : Walks prog w A s₁.heap.objs.size [s₁.heap.objs.size] [s₁.heap.objs.size] n (fun i v => i < n ∧ ∃ t, v = .int (0 + (i : Int) * 1) t)
      (fun i h => IsRangeIter h s₁.heap.objs.size (0 + (i : Nat) * 1) ((n : Int) - (i : Nat)) 1) := (Walks.range hh _ 0 1 n).bound
  refine block_U W (by rw [sizeLine_eq]; omega) (fun i h st => ⟨_, st⟩) (fun i h h' o nw st e e' _ _ _ => ?_) hcell hkind hx ?_ (fun b hb => ?_)
    (F.keeps up) (N.grown up) (Nat.ne_of_lt F.ns.lt) (next_is_new F) (fun p hp => Nat.ne_of_lt (Heap.lt_size (N p hp).1)) trivial (R _) ?_
  · have st' : h.get? s₁.heap.objs.size = some _ := st
    rw [e] at st'
    cases st'
    exact e'
  · show IsRangeIter _ _ _ _ _
    rw [hsize]
    simpa using Heap.get?_push_size s₁.heap rfl
  · rw [List.mem_singleton.mp hb]
    show s₁.heap.objs.size < (s₁.heap.push _).objs.size
    rw [Heap.size_push]
    exact Nat.lt_succ_self _
  · intro D C h tk m' ys news' F' N' o1 hn hC₀ hD₀ hCL hDL hCD offC fin
    refine ⟨m', hn, fun h'' hs'' => fin D h'' tk (F'.change hs'' hCL hC₀) (fun p hp => ?_) o1⟩
    refine ⟨hs''.extBut _ _ ?_ (N' p hp).1, (N' p hp).2⟩
    rcases List.mem_cons.mp hp with rfl | hp
    · exact Ne.symm hCD
    · exact offC p hp
theorem places_rest {elt : PySem.Expr} {x : Str} {scope : Scope} {cl : List (Str × Addr)} {Fin : List Value → Led → Prop} {n : Nat} {led : Led}
    (turn : ∀ (i : Nat) (ys : List Value) (news : Led) (I : Addr) (oI : Obj) (C : Addr) (oC : Obj) (D : Addr) (m₂ : Str → Option Value) (h : Heap) (tk : Nat) (t : Tok) (Q' E' : Value → Shared → Prop), i < n → NsObj oC m₂ → m₂ x = some (.int (0 + (i : Int) * 1) t) → Fr h₀ L h m → News h₀ L h ((I, oI) :: (C, oC) :: (D, lst ys) :: news) →
      (∀ b t1 t2 h' tk', Fr h₀ L h' m → News h₀ L h' ((b, tupObj [.int 1 t1, .int (12 + (0 + (i : Int) * 1)) t2]) :: (I, oI) :: (C, oC) :: (D, lst ys) :: news) → (∀ p ∈ (I, oI) :: (C, oC) :: (D, lst ys) :: news, p.1 < b) → Q' (.ref b) { s with heap := h', toks := tk' }) →
      wpAny (model prog w) A (eval elt (compEnvC scope cl C env)) Q' E' { s with heap := h, toks := tk })
    (fin : ∀ ys news, (∀ p ∈ led, p ∈ news) → ys.length = n → (∀ j, j < n → PlaceAt news ys j) → Fin ys news) :
    ∀ k i ys news, i + k = n → (∀ p ∈ led, p ∈ news) → ys.length = i → (∀ j, j < i → PlaceAt news ys j) →
      CompRest prog w A h₀ L m env elt x scope cl s (fun _ => True) (fun i v => i < n ∧ ∃ t, v = .int (0 + (i : Int) * 1) t) Fin k i ys news
  | 0, i, ys, news, hk, hs, hy, hp => by
    have e : i = n := by omega
    subst e
    exact fin ys news hs hy hp
  | k + 1, i, ys, news, hk, hs, hy, hp => by
    intro v I oI C oC D m₂ h tk E' ⟨hi, t, hv⟩ hNs hm F N off ne
    subst hv
    refine turn i ys news I oI C oC D m₂ h tk t _ E' hi hNs hm F N fun b t1 t2 h' tk' F' N' hlt => ?_
    refine CompEnd.intro F' N' ((b, tupObj [.int 1 t1, .int (12 + (0 + (i : Int) * 1)) t2]) :: news) (fun p hp => ?_) ⟨⟨Nat.ne_of_gt (hlt _ (.head _)), Nat.ne_of_gt (hlt _ (.tail _ (.head _))), Nat.ne_of_gt (hlt _ (.tail _ (.tail _ (.head _))))⟩, off⟩ trivial ?_
    · simp only [List.mem_cons] at hp ⊢
      rcases hp with h | h | h | h | h
      · exact .inr (.inl h)
      · exact .inr (.inr (.inl h))
      · exact .inr (.inr (.inr (.inl h)))
      · exact .inl h
      · exact .inr (.inr (.inr (.inr h)))
    · refine places_rest turn fin k (i + 1) _ _ (by omega) (fun p hp => .tail _ (hs p hp)) (by rw [List.length_append, hy]; rfl) fun j hj => ?_
      rcases Nat.lt_or_ge j i with h | h
      · obtain ⟨b', q1, q2, e, mm⟩ := hp j h
        exact ⟨b', q1, q2, by rw [List.getElem?_append_left (by omega)]; exact e, .tail _ mm⟩
      · have e : j = i := by omega
        subst e
        refine ⟨b, t1, t2, by rw [List.getElem?_append_right (by omega), hy, Nat.sub_self]; rfl, ?_⟩
        have e2 : (12 + (0 + (j : Int) * 1)) = 12 + (j : Int) := by omega
        rw [e2]
        exact .head _
end
end
theorem flush_47 : True := by
  w_top off
  first | walk1 | trivial
section
open PySem PySem.W PyProof.Rows PySem.Calls
set_option Elab.async false
set_option maxRecDepth 100000
set_option maxHeartbeats 0
section
variable {w : World} {loose : List Str} {mean : ExcName → Option Value} {mg mb : Str → Option Value} {led : Led}
theorem Toks.len {w : World} {led : Led} {vs : List Value} {ts : List (Str × Str)} (h : Toks w led vs ts) : vs.length = ts.length := by
  induction h with
  | nil => rfl
  | snoc _ _ ih => rw [List.length_append, List.length_append, ih]; rfl
theorem Toks.pk {w : World} {led : Led} {vs : List Value} {ts : List (Str × Str)} (h : Toks w led vs ts) : ∀ j, Pk w led vs j ts[j]? := by
  induction h with
  | nil => intro j; exact Nat.zero_le _
  | snoc h t ih =>
    rename_i vs ts v kw
    have hl := h.len
    intro j
    rcases Nat.lt_trichotomy j ts.length with hj | hj | hj
    · have i1 := ih j
      rw [List.getElem?_append_left hj]
      rw [List.getElem?_eq_getElem hj] at i1 ⊢
      obtain ⟨v', hx, t'⟩ := i1
      exact ⟨v', by rw [List.getElem?_append_left (by omega)]; exact hx, t'⟩
    · subst hj
      rw [List.getElem?_append_right (Nat.le_refl _), Nat.sub_self]
      refine ⟨v, ?_, t⟩
      rw [List.getElem?_append_right (by omega), hl, Nat.sub_self]
      rfl
    · rw [List.getElem?_eq_none (by rw [List.length_append, List.length_singleton]; omega)]
      show (vs ++ [v]).length ≤ j
      rw [List.length_append, List.length_singleton]
      omega
theorem reader_post {w : World} {led3 : Led} {q1 q2 : Addr × Obj} {xr dr l8 nm sh n8 : Nat} {t1 t2 t3 t4 t5 : Tok} {vs : List Value} {ts : List (Str × Str)} (hf : Func (q1 :: q2 :: (xr, instObj 701 dr) :: (dr, rdObj w l8 nm sh 0 t1 t2 t3 t4 t5) :: (l8, W.listOf vs.toArray n8) :: led3))
    (hlt : ∀ p ∈ (l8, W.listOf vs.toArray n8) :: led3, p.1 < dr) (hx : dr < xr) (htab : TabAt led3) (htk : Toks w led3 vs ts) (hz : ts.length ≤ 50) :
    ∃ bl, RB w bl xr dr l8 n8 vs ts ∧ vs.length = ts.length ∧ St w bl (q1 :: q2 :: (xr, instObj 701 dr) :: (dr, rdObj w l8 nm sh 0 t1 t2 t3 t4 t5) :: (l8, W.listOf vs.toArray n8) :: led3) dr l8 nm sh 0 := by
  generalize hK : (q1 :: q2 :: (xr, instObj 701 dr) :: (dr, rdObj w l8 nm sh 0 t1 t2 t3 t4 t5) :: (l8, W.listOf vs.toArray n8) :: led3) = K at hf
  obtain ⟨ps, ok, hm⟩ := htab
  have k1 : (xr, instObj 701 dr) ∈ K := by rw [← hK]; exact .tail _ (.tail _ (.head _))
  have k2 : (dr, rdObj w l8 nm sh 0 t1 t2 t3 t4 t5) ∈ K := by rw [← hK]; exact .tail _ (.tail _ (.tail _ (.head _)))
  have k3 : (l8, W.listOf vs.toArray n8) ∈ K := by rw [← hK]; exact .tail _ (.tail _ (.tail _ (.tail _ (.head _))))
  have k4 : ∀ p ∈ led3, p ∈ K := fun p hp => by rw [← hK]; exact .tail _ (.tail _ (.tail _ (.tail _ (.tail _ hp))))
  have d480 : 480 < dr := hlt _ (.tail _ hm)
  have hl8 : l8 < dr := hlt _ (.head _)
  have l480 : l8 ≠ 480 := fun e => by
    have := hf _ k3 _ (k4 _ hm) e
    have := congrArg Obj.cls this
    cases this
  have fx : ∀ p ∈ K, Fx dr p.1 → p ∈ K.filter (fun p => p.1 != dr && p.1 != 480) := fun p hp h => List.mem_filter.mpr ⟨hp, by simp [h.1, h.2]⟩
  have tcl : ∀ p ∈ led3, (p.2.cls = .type "dict" ∨ ∃ c, p.2.cls = .ref c) → p ∈ K.filter (fun p => p.1 != dr && p.1 != 480) := fun p hp h => fx p (k4 p hp) ⟨Nat.ne_of_lt (hlt p (.tail _ hp)), fun e => by
    have e2 := hf p (k4 p hp) _ (k4 _ hm) e
    rw [e2] at h
    rcases h with h | ⟨c, h⟩ <;> cases h⟩
  have T := htk.cls tcl
  refine ⟨K.filter (fun p => p.1 != dr && p.1 != 480), ⟨fx _ k1 ⟨Nat.ne_of_gt hx, Nat.ne_of_gt (Nat.lt_trans d480 hx)⟩, fx _ k3 ⟨Nat.ne_of_lt hl8, l480⟩, fun p hp => ?_, Nat.ne_of_gt d480, ?_, T.pk⟩, htk.len, ⟨fun p hp => (List.mem_filter.mp hp).1, ⟨_, _, _, _, _, k2⟩, ps, ok, k4 _ hm⟩⟩
  · have := (List.mem_filter.mp hp).2
    simp only [Bool.and_eq_true, bne_iff_ne] at this
    exact this
  · rw [htk.len]; omega
theorem endReader {w : World} {h₀ h' : Heap} {L : Addr} {m : Str → Option Value} {tk' : Nat} {s : Shared} {Q : Value → Shared → Prop} {led led3 : Led} {q1 q2 : Addr × Obj} {xr dr l8 nm sh n8 : Nat} {t1 t2 t3 t4 t5 : Tok} {vs : List Value} {ts : List (Str × Str)}
    (ret : ∀ r led' h' tk', Fr h₀ L h' m → News h₀ L h' led' → (∃ rd d l nm sh n vs bl, r = .ref rd ∧ RB w bl rd d l n vs ts ∧ vs.length = ts.length ∧ St w bl led' d l nm sh 0 ∧ (∀ p ∈ led, p ∈ led') ∧ ∀ p ∈ led, p.1 ≠ d) → Q r { s with heap := h', toks := tk' })
    (F : Fr h₀ L h' m) (N : News h₀ L h' (q1 :: q2 :: (xr, instObj 701 dr) :: (dr, rdObj w l8 nm sh 0 t1 t2 t3 t4 t5) :: (l8, W.listOf vs.toArray n8) :: led3))
    (hlt : ∀ p ∈ (l8, W.listOf vs.toArray n8) :: led3, p.1 < dr) (hx : dr < xr) (htab : TabAt led3) (htk : Toks w led3 vs ts) (hz : ts.length ≤ 50) (hsub : ∀ p ∈ led, p ∈ led3) :
    Q (.ref xr) { s with heap := h', toks := tk' } := by
  obtain ⟨bl, R, hl, S0⟩ := reader_post (News.func N) hlt hx htab htk hz
  exact ret _ _ _ _ F N ⟨xr, dr, l8, nm, sh, n8, vs, bl, rfl, R, hl, S0, fun p hp => .tail _ (.tail _ (.tail _ (.tail _ (.tail _ (hsub p hp))))), fun p hp => Nat.ne_of_lt (hlt p (.tail _ (hsub p hp)))⟩
local macro_rules | `(tactic| walk_at "eval ListComp") => `(tactic| (k_here; refine holdW ?_))
theorem law_reader_ok (x : Str) (t : Tok) (its : List It) (hlen : x.length ≤ 200) (hx : Low x) (ht : TextFrom x 0 its) (hz : (toksOf its).length ≤ 50) (htab : TabAt led) : Con w loose mean mg mb 745 30 [.str x t] led (fun r l' => ∃ rd d l nm sh n vs bl, r = .ref rd ∧ RB w bl rd d l n vs (toksOf its) ∧ vs.length = (toksOf its).length ∧ St w bl l' d l nm sh 0 ∧ (∀ p ∈ led, p ∈ l') ∧ ∀ p ∈ led, p.1 ≠ d) := by
  unfold Con
  k_fill
  intro dp un gd cn cs a ccd cl outer A₀ base h₀ L m s Q E B F X N T hkf hd hu ret
  refine wpAny_call ?_
  k_dflt (refine' code_def (binds := [("text", Value.str x t)]) ?k1 ?k2 ?k3 ?k4 ?k5 ?kA ?kF ?kK ?k6 ?k7 ?k8 ?k9 ?kB ?_ ?c2 ?c3 ?c4 ?c5; (case kA => exact rfl); (case kF => exact rfl); (case kK => first | assumption | exact rfl); (case k1 => k_asm); (case k2 => k_asm); (case k3 => k_asm); (case k4 => k_asm); (case k5 => k_asm); (case k6 => k_is); (case k7 => k_is); (case k8 => ktr_room); (case k9 => first | exact BindsTo.of_eq rfl | exact kp_binds (by k_in) (fun _ => by kernel_rfl)); (case c5 => decide); (case kB => exact locs rfl); (case c2 => exact rfl); (case c3 => exact rfl); (case c4 => exact rfl); k_whole; intro g' L' h' FG' F' N' B' X' T'; (try dsimp only); (try k_lift B'); (try k_fold))
  k_steps
  refine comp_range (F₀ := by k_asm) (by rfl) (by decide) (by rfl) (by decide) (by rfl) ?_
  k_steps
  refine RangeSrc.intro (by k_asm) (by omega) (by rfl) (by k_asm) (by k_asm) fun g => ?_
  refine places_rest (led := led) ?turn ?_ x.length 0 [] led (by omega) (fun p h => h) rfl (fun j h => absurd h (by omega))
  case turn =>
    intro i ys news I oI C oC D m₂ h2 tk2 t2 Q2 E2 hi hNs hm F2 N2 hQ
    k_steps
    exact hQ _ _ _ _ _ (by k_asm) (by k_asm) (by first | assumption | exact ktn_ltOf (by assumption) | exact ktn_ltOf (And.right (by assumption)) | exact ktn_ltOf (And.right (And.right (by assumption))))
  intro pits led2 hs2 hy hpp D9 h9 tk9 F9 N9 o9
  k_steps
  k_dflt (refine' call_cls ?k1 ?k2 ?k3 ?k4 ?k5 ?k6 ?_; (case k1 => k_asm); (case k2 => k_asm); (case k3 => k_asm); (case k4 => k_is); (case k5 => k_is); (case k6 => k_is); k_whole; intro xo do9 ho Fo No lo1 lo2; (try k_lt lo1); (try k_lt2 lo2); (try k_sweep))
  k_dflt (refine' code_def (binds := [("self", Value.ref xo), ("text", Value.str x t), ("spots", Value.ref D9)]) ?k1 ?k2 ?k3 ?k4 ?k5 ?kA ?kF ?kK ?k6 ?k7 ?k8 ?k9 ?kB ?_ ?c2 ?c3 ?c4 ?c5; (case kA => exact rfl); (case kF => exact rfl); (case kK => first | assumption | exact rfl); (case k1 => k_asm); (case k2 => k_asm); (case k3 => k_asm); (case k4 => k_asm); (case k5 => k_asm); (case k6 => k_is); (case k7 => k_is); (case k8 => ktr_room); (case k9 => first | exact BindsTo.of_eq rfl | exact kp_binds (by k_in) (fun _ => by kernel_rfl)); (case c5 => decide); (case kB => exact locs rfl); (case c2 => exact rfl); (case c3 => exact rfl); (case c4 => exact rfl); k_whole; intro g' L' h' FG' F' N' B' X' T'; (try dsimp only); (try k_lift B'); (try k_fold))
  k_steps
  refine useP (by k_asm) (by k_asm) (by k_asm) (by k_asm) (by k_asm) (by first | exact rfl | assumption) (tokens_of_ok _ _ _ its pits xo do9 D9 _ _ _ x (by k_mem) (by k_mem) (by k_mem) (by k_mem) ?hpp hlen hx ht hz) (by ktr_room) (by ktr_units) ?_
  case hpp => exact fun i hi => (hpp i hi).mono fun p h => .tail _ (.tail _ (.tail _ (.tail _ h)))
  rintro r8 led8 h8 tk8 F8 N8 ⟨l8, vs, n8, led3, rfl, rfl, hs3, htk⟩
  (try dsimp only)
  (try k_fold)
  k_steps
  k_dflt (refine' call_cls ?k1 ?k2 ?k3 ?k4 ?k5 ?k6 ?_; (case k1 => k_asm); (case k2 => k_asm); (case k3 => k_asm); (case k4 => k_is); (case k5 => k_is); (case k6 => k_is); k_whole; intro xr dr hr Fr9 Nr9 lr1 lr2; (try k_lt lr1); (try k_lt2 lr2); (try k_sweep))
  k_dflt (refine' code_def (binds := [("self", Value.ref xr), ("tokens", Value.ref l8), ("at", Value.int 0 981)]) ?k1 ?k2 ?k3 ?k4 ?k5 ?kA ?kF ?kK ?k6 ?k7 ?k8 ?k9 ?kB ?_ ?c2 ?c3 ?c4 ?c5; (case kA => exact rfl); (case kF => exact rfl); (case kK => first | assumption | exact rfl); (case k1 => k_asm); (case k2 => k_asm); (case k3 => k_asm); (case k4 => k_asm); (case k5 => k_asm); (case k6 => k_is); (case k7 => k_is); (case k8 => ktr_room); (case k9 => first | exact BindsTo.of_eq rfl | exact kp_binds (by k_in) (fun _ => by kernel_rfl)); (case c5 => decide); (case kB => exact locs rfl); (case c2 => exact rfl); (case c3 => exact rfl); (case c4 => exact rfl); k_whole; intro g' L' h' FG' F' N' B' X' T'; (try dsimp only); (try k_lift B'); (try k_fold))
  k_steps

  have htab3 : TabAt led3 := let ⟨ps, ok, hm⟩ := htab; ⟨ps, ok, hs3 _ (.tail _ (.tail _ (.tail _ (.tail _ (hs2 _ hm)))))⟩
  have hltr : ∀ p ∈ (l8, W.listOf vs.toArray n8) :: led3, p.1 < dr := by
    intro p hp
    rcases List.mem_cons.mp hp with rfl | hp
    · exact lr1.1
    · exact (show ∀ p ∈ led3, p.1 < dr from ktn_ltOf lr1.2) p hp
  refine endReader ret (by k_asm) (by k_asm) hltr lr2 htab3 htk hz fun p hp => hs3 _ (.tail _ (.tail _ (.tail _ (.tail _ (hs2 _ hp)))))
end
end
theorem flush_48 : True := by
  w_top off
  first | walk1 | trivial
end
theorem flush_49 : True := by
  w_top off
  first | walk1 | trivial
section
open PySem PySem.W PyProof.Rows PySem.Calls
local macro_rules | `(tactic| walk_at "subscriptTail Name Constant ref int") => `(tactic| (k_here; k_dflt (refine tup_item (by k_asm) (by k_mem) (by decide) (by rfl) (by rfl) ?_)))
section
open PySem PySem.W PyProof.Rows PySem.Calls
set_option Elab.async false
set_option maxRecDepth 100000
set_option maxHeartbeats 0
section
variable {w : World} {loose : List Str} {mean : ExcName → Option Value} {mg mb : Str → Option Value} {led : Led}
end
def PenAt (led : Led) (pen : Addr) (k : Int) : Prop := ∃ p0 p1 p2 t0 t1 t2 n, (pen, W.listOf #[.int p0 t0, .int p1 t1, .int p2 t2] n) ∈ led ∧ 0 ≤ p0 ∧ 0 ≤ p1 ∧ p1 ≤ k ∧ 0 ≤ p2 ∧ p2 < 999979
def DrawPost (pen : Addr) (k many : Int) (led : Led) (r : Value) (l' : Led) : Prop := ∃ dg t, r = .int dg t ∧ (0 ≤ dg ∧ dg < many) ∧ PenAt l' pen (k + 1) ∧ ∀ p ∈ led, p.1 ≠ pen → p ∈ l'
def PickPost (pen : Addr) (k : Int) (led : Led) (r : Value) (l' : Led) : Prop := ∃ v t, r = .int v t ∧ (v = 18 ∨ v = 3 ∨ v = 9) ∧ PenAt l' pen (k + 1) ∧ ∀ p ∈ led, p.1 ≠ pen → p ∈ l'
theorem PenAt.more {led led' : Led} {pen : Addr} {k : Int} (h : PenAt led pen k) (hs : ∀ p ∈ led, p ∈ led') : PenAt led' pen k :=
  let ⟨p0, p1, p2, t0, t1, t2, n, hm, r⟩ := h; ⟨p0, p1, p2, t0, t1, t2, n, hs _ hm, r⟩
section
variable {w : World} {loose : List Str} {mean : ExcName → Option Value} {mg mb : Str → Option Value} {led : Led}
theorem draw_R (pen : Addr) (k many : Int) (u : Tok) (hk : k ≤ 8) (hP : PenAt led pen k) (h6 : 2 ≤ many) (h7 : many ≤ 10 ^ 18) : Con w loose mean mg mb 719 6 [.ref pen, .int many u] led (DrawPost pen k many led) := by
  obtain ⟨p0, p1, p2, t0, t1, t2, n, hm, h0, h1, h2, h3, h4⟩ := hP
  refine con_split hm (con_post (law_draw_ok pen p0 p1 p2 many t0 t1 t2 u n rest_ne h0 h1 (by omega) h3 h4 h6 h7) ?_)
  rintro r l' ⟨q, q1, dg, t, r0, r1, rfl, hd, rfl, hq, hq1, hq2⟩
  exact ⟨dg, t, rfl, hd, ⟨q, q1, p2, r0, r1, t2, n, .head _, hq, hq1, by omega, h3, h4⟩, fun p hp hne => .tail _ (mem_rest hp hne)⟩
end
section
variable {w : World} {loose : List Str} {mean : ExcName → Option Value} {mg mb : Str → Option Value} {led : Led}
theorem law_pick_ok (pen tp : Addr) (k : Int) (a1 a2 a3 a4 : Tok) (hk : k ≤ 8) (hP : PenAt led pen k) (ht : (tp, tupObj [.int 18 a1, .int 18 a2, .int 3 a3, .int 9 a4]) ∈ led) (hne : tp ≠ pen) : Con w loose mean mg mb 726 8 [.ref pen, .ref tp] led (PickPost pen k led) := by
  unfold Con
  k_fill
  intro dp un gd cn cs a ccd cl outer A₀ base h₀ L m s Q E B F X N T hkf hd hu ret
  refine wpAny_call ?_
  k_dflt (refine' code_def (binds := [("pen", Value.ref pen), ("some", Value.ref tp)]) ?k1 ?k2 ?k3 ?k4 ?k5 ?kA ?kF ?kK ?k6 ?k7 ?k8 ?k9 ?kB ?_ ?c2 ?c3 ?c4 ?c5; (case kA => exact rfl); (case kF => exact rfl); (case kK => first | assumption | exact rfl); (case k1 => k_asm); (case k2 => k_asm); (case k3 => k_asm); (case k4 => k_asm); (case k5 => k_asm); (case k6 => k_is); (case k7 => k_is); (case k8 => ktr_room); (case k9 => first | exact BindsTo.of_eq rfl | exact kp_binds (by k_in) (fun _ => by kernel_rfl)); (case c5 => decide); (case kB => exact locs rfl); (case c2 => exact rfl); (case c3 => exact rfl); (case c4 => exact rfl); k_whole; intro g' L' h' FG' F' N' B' X' T'; (try dsimp only); (try k_lift B'); (try k_fold))
  k_steps
  refine useP (by k_asm) (by k_asm) (by k_asm) (by k_asm) (by k_asm) (by first | exact rfl | assumption) (draw_R pen k 4 _ hk hP (by decide) (by decide)) (by ktr_room) (by ktr_units) ?_
  intro r9 led9 h9 tk9 F9 N9 p9
  obtain ⟨dg, u9, rfl, hdg, hP9, hs9⟩ := p9
  have ht9 := hs9 _ ht hne
  rcases (by omega : dg = 0 ∨ dg = 1 ∨ dg = 2 ∨ dg = 3) with rfl | rfl | rfl | rfl
  all_goals (dsimp only; k_steps)
  all_goals exact ret _ _ _ _ (by k_asm) (by k_asm) ⟨_, _, rfl, by omega, hP9, hs9⟩
end
end
theorem flush_50 : True := by
  w_top off
  first | walk1 | trivial
section
open PySem PySem.W PyProof.Rows PySem.Calls
local macro_rules | `(tactic| walk_at "subscriptTail Attribute") => `(tactic| (k_here; k_dflt (refine kba_turn (value' := PySem.Expr.Name (PySem.Str.ofString "_") ⟨0, 0, 0, 0⟩) (fun _ => rfl) ?_)))
section
open PySem PySem.W PyProof.Rows PySem.Calls
set_option Elab.async false
set_option maxRecDepth 100000
set_option maxHeartbeats 0
section
variable {w : World} {loose : List Str} {mean : ExcName → Option Value} {mg mb : Str → Option Value} {led : Led}
section
variable {prog : Program} {w : World} {A : Around} {E : Value → Shared → Prop} {s : Shared} {x y : Str} {t u : Tok} {Q : Value → Shared → Prop}
theorem str_int_is {a : Int} (e : Str.ofString (toString a) = y) (ha : a.natAbs < 2 ^ 64) (h : Q (.str y s.toks) { s with toks := s.toks + 1 }) : wpAny (model prog w) A (call (.type "str") [.int a t]) Q E s := by
  subst e
  refine P.str_of_int ?_ h
  by_cases h0 : a.natAbs = 0
  · rw [h0]; decide
  · exact Nat.lt_of_lt_of_le ((Nat.log2_lt h0).mpr ha) (by decide)
theorem mul_is {n : Int} (e : Txt.mul x n = y) (hx : x.length ≤ 16) (hn : n ≤ 1000) (hn0 : -1000 ≤ n) (h : ∀ t' k, Q (.str y t') { s with toks := k }) : wpAny (model prog w) A (binaryOp .Mult (.str x t) (.int n u)) Q E s := by
  subst e
  exact SB.mul (mulOk_of 16 1048576 hx (by omega) (by omega) (by decide) (by decide)) h
end
theorem foldl_rep (c : Nat) : ∀ (k : Nat) (a : Array Nat), (List.replicate k #[c]).foldl (· ++ ·) a = a ++ (List.replicate k c).toArray
  | 0, a => by simp
  | k + 1, a => by
    rw [List.replicate_succ, List.foldl_cons, foldl_rep c k, List.replicate_succ]
    apply Array.ext'
    simp
theorem mul_zeros (n : Int) : Txt.mul (Str.ofString "0") n = S (List.replicate n.toNat 48) := by
  rw [show Str.ofString "0" = S [48] from by decide +kernel]
  unfold Txt.mul
  by_cases h : n < 1
  · rw [if_pos h, show n.toNat = 0 by omega]; rfl
  · rw [if_neg h]
    by_cases h1 : n = 1
    · subst h1; rfl
    · rw [if_neg (by rw [len_S]; simp [h1])]
      have := foldl_rep 48 n.toNat #[]
      show (⟨_⟩ : Str) = _
      rw [this]
      apply congrArg
      apply Array.ext'
      simp
def wtx (n sc : Nat) : List Nat := if sc = 0 then digs n else (fig n sc).take ((fig n sc).length - sc) ++ 46 :: (fig n sc).drop ((fig n sc).length - sc)
theorem abs_is {x : Int} {n : Nat} (hx : x.natAbs = n) : (if x < 0 then -x else x) = (n : Int) := by split <;> omega
theorem neg_app (l : List Nat) : Str.ofString "-" ++ S l = S (45 :: l) := by rw [show Str.ofString "-" = S [45] from by decide +kernel, S_app]; rfl
local macro_rules | `(tactic| walk_at "call builtin:len") => `(tactic| (k_here; (with_reducible show wpAny _ _ (call (Value.builtin "len") [Value.str _ _]) _ _ _); refine len_text (by with_reducible assumption) ?_; (try dsimp only)))
local macro_rules | `(tactic| walk_at "subscriptTail Name Slice str ref") => `(tactic| (k_here; (first | (refine slice_sn_is (s := ⟨_, _, _, _, _⟩) (by with_reducible assumption) (by first | with_reducible assumption | omega) (by k_asm) (by k_asm) ?_) | (refine slice_ns_is (s := ⟨_, _, _, _, _⟩) (by with_reducible assumption) (by first | with_reducible assumption | omega) (by k_asm) (by k_asm) ?_)); intro h9 t9 k9 F9 N9; (try dsimp only)))
local macro_rules | `(tactic| walk_at "call type:str") => `(tactic| (k_here; refine str_int_is (by with_reducible assumption) (by with_reducible assumption) ?_))
local macro_rules | `(tactic| walk_at "binaryOp Mult str int") => `(tactic| (k_here; refine mul_is (by with_reducible assumption) (by decide +kernel) (by omega) (by omega) ?_; intro t9 k9; (try dsimp only)))
theorem write_decimal_w (ad : Addr) (x z : Int) (Dg : Str) (q1 q2 : Tok) (hm : (ad, tupObj [.int x q1, .int z q2]) ∈ led) (h0 : ¬ 0 < z) (fS : Str.ofString (toString (if x < 0 then -x else x)) = Dg) (fL : (if x < 0 then -x else x).natAbs < 2 ^ 64) (hdl : Dg.length ≤ 18) : Con w loose mean mg mb 138 4 [.ref ad] led (Back led fun t => .str (if x < 0 then Str.ofString "-" ++ Dg else Dg) t) := by
  unfold Con
  k_fill
  intro dp un gd cn cs a ccd cl outer A₀ base h₀ L m s Q E B F X N T hkf hd hu ret
  have hdl2 : Dg.length ≤ 1000 := by omega
  refine wpAny_call ?_
  k_dflt (refine' code_def (binds := [("a", Value.ref ad)]) ?k1 ?k2 ?k3 ?k4 ?k5 ?kA ?kF ?kK ?k6 ?k7 ?k8 ?k9 ?kB ?_ ?c2 ?c3 ?c4 ?c5; (case kA => exact rfl); (case kF => exact rfl); (case kK => first | assumption | exact rfl); (case k1 => k_asm); (case k2 => k_asm); (case k3 => k_asm); (case k4 => k_asm); (case k5 => k_asm); (case k6 => k_is); (case k7 => k_is); (case k8 => ktr_room); (case k9 => first | exact BindsTo.of_eq rfl | exact kp_binds (by k_in) (fun _ => by kernel_rfl)); (case c5 => decide); (case kB => exact locs rfl); (case c2 => exact rfl); (case c3 => exact rfl); (case c4 => exact rfl); k_whole; intro g' L' h' FG' F' N' B' X' T'; (try dsimp only); (try k_lift B'); (try k_fold))
  k_steps
  all_goals exact ret _ _ _ _ (by k_asm) (by k_asm) (backS' (by first | (rw [if_pos (by assumption)]) | (rw [if_neg (by assumption)])))
theorem write_decimal_p (ad : Addr) (x z : Int) (Dg Zr Fg U D : Str) (q1 q2 : Tok) (hm : (ad, tupObj [.int x q1, .int z q2]) ∈ led) (h0 : 0 < z) (hz : z ≤ 18) (fS : Str.ofString (toString (if x < 0 then -x else x)) = Dg) (fL : (if x < 0 then -x else x).natAbs < 2 ^ 64) (hdl : Dg.length ≤ 18) (e4 : Txt.mul (Str.ofString "0") (z + 1 - (Dg.length : Int)) = Zr) (e0 : Fg = Zr ++ Dg) (hzl : Zr.length ≤ 100) (hfz : Fg.length ≤ 1000) (e5 : Txt.slice Fg none (some ((Fg.length : Int) - z)) = U) (e6 : Txt.slice Fg (some ((Fg.length : Int) - z)) none = D) (hT : U.length ≤ 100) (hD : D.length ≤ 100) : Con w loose mean mg mb 138 4 [.ref ad] led (Back led fun t => .str (if x < 0 then Str.ofString "-" ++ (U ++ Str.ofString "." ++ D) else (U ++ Str.ofString "." ++ D)) t) := by
  unfold Con
  k_fill
  intro dp un gd cn cs a ccd cl outer A₀ base h₀ L m s Q E B F X N T hkf hd hu ret
  subst e0
  have hdl2 : Dg.length ≤ 1000 := by omega
  refine wpAny_call ?_
  k_dflt (refine' code_def (binds := [("a", Value.ref ad)]) ?k1 ?k2 ?k3 ?k4 ?k5 ?kA ?kF ?kK ?k6 ?k7 ?k8 ?k9 ?kB ?_ ?c2 ?c3 ?c4 ?c5; (case kA => exact rfl); (case kF => exact rfl); (case kK => first | assumption | exact rfl); (case k1 => k_asm); (case k2 => k_asm); (case k3 => k_asm); (case k4 => k_asm); (case k5 => k_asm); (case k6 => k_is); (case k7 => k_is); (case k8 => ktr_room); (case k9 => first | exact BindsTo.of_eq rfl | exact kp_binds (by k_in) (fun _ => by kernel_rfl)); (case c5 => decide); (case kB => exact locs rfl); (case c2 => exact rfl); (case c3 => exact rfl); (case c4 => exact rfl); k_whole; intro g' L' h' FG' F' N' B' X' T'; (try dsimp only); (try k_lift B'); (try k_fold))
  k_steps
  all_goals exact ret _ _ _ _ (by k_asm) (by k_asm) (backS' (by first | (rw [if_pos (by assumption)]) | (rw [if_neg (by assumption)])))
theorem con_eq {w : World} {loose : List Str} {mean : ExcName → Option Value} {mg mb : Str → Option Value} {f dep : Nat} {vs : List Value} {led : Led} {y z : Str} (C : Con w loose mean mg mb f dep vs led (Back led fun t => .str y t)) (e : y = z) : Con w loose mean mg mb f dep vs led (Back led fun t => .str z t) := e ▸ C
theorem write_decimal_ok (ad : Addr) (x : Int) (n sc : Nat) (q1 q2 : Tok) (hm : (ad, tupObj [.int x q1, .int (sc : Int) q2]) ∈ led) (hx : x.natAbs = n) (hn : n < 10 ^ 18) (hs : sc ≤ 18) : Con w loose mean mg mb 138 4 [.ref ad] led (Back led fun t => .str (S ((if x < 0 then [45] else []) ++ wtx n sc)) t) := by
  have hax := abs_is hx
  have fS : Str.ofString (toString (if x < 0 then -x else x)) = S (digs n) := by rw [hax]; exact str_digs n
  have fL : (if x < 0 then -x else x).natAbs < 2 ^ 64 := by rw [hax]; omega
  have hd : (digs n).length ≤ 18 := (digs_le (by decide)).mpr hn
  have hdl : (S (digs n)).length ≤ 18 := by rw [len_S]; exact hd
  have hsg : ∀ l : List Nat, (if x < 0 then Str.ofString "-" ++ S l else S l) = S ((if x < 0 then [45] else []) ++ l) := by
    intro l
    split
    · exact neg_app l
    · rfl
  rcases Nat.eq_zero_or_pos sc with h0 | h0
  · subst h0
    exact con_eq (write_decimal_w ad x _ (S (digs n)) q1 q2 hm (by decide) fS fL hdl) (by rw [hsg]; unfold wtx; rw [if_pos rfl])
  · have hR : ((sc : Int) + 1 - ((S (digs n)).length : Int)).toNat = sc + 1 - (digs n).length := by rw [len_S]; exact Int.toNat_sub (sc + 1) (digs n).length
    have e4 : Txt.mul (Str.ofString "0") ((sc : Int) + 1 - ((S (digs n)).length : Int)) = S (List.replicate (sc + 1 - (digs n).length) 48) := by rw [mul_zeros, hR]
    have hfl : (fig n sc).length = (sc + 1 - (digs n).length) + (digs n).length := by unfold fig; rw [List.length_append, List.length_replicate]
    have e0 : S (List.replicate (sc + 1 - (digs n).length) 48) ++ S (digs n) = S (fig n sc) := S_app _ _
    have hcut : ((S (fig n sc)).length : Int) - (sc : Int) = (((fig n sc).length - sc : Nat) : Int) := by rw [len_S]; have := fig_len n sc; omega
    refine con_eq (write_decimal_p ad x sc (S (digs n)) (S (List.replicate (sc + 1 - (digs n).length) 48)) (S (fig n sc)) (S ((fig n sc).take ((fig n sc).length - sc))) (S ((fig n sc).drop ((fig n sc).length - sc))) q1 q2 hm (by omega) (by omega) fS fL hdl e4
      e0.symm ?_ ?_ ?_ ?_ ?_ ?_) ?_
    · rw [len_S, List.length_replicate]; omega
    · rw [len_S, hfl]; omega
    · rw [hcut, slice_to]
    · rw [hcut, slice_from]
    · rw [len_S, List.length_take]; omega
    · rw [len_S, List.length_drop]; omega
    · have hj : S ((fig n sc).take ((fig n sc).length - sc)) ++ Str.ofString "." ++ S ((fig n sc).drop ((fig n sc).length - sc)) = S (wtx n sc) := by
        rw [show Str.ofString "." = S [46] from by decide +kernel, S_app, S_app, List.append_assoc]
        unfold wtx
        rw [if_neg (by omega)]; rfl
      rw [hj, hsg]
end
end
theorem flush_51 : True := by
  w_top off
  first | walk1 | trivial
section
open PySem PySem.W PyProof.Rows PySem.Calls
set_option Elab.async false
set_option maxRecDepth 100000
set_option maxHeartbeats 0
section
variable {w : World} {loose : List Str} {mean : ExcName → Option Value} {mg mb : Str → Option Value} {led : Led}
local macro_rules | `(tactic| walk_at "call builtin:len") => `(tactic| (k_here; (with_reducible show wpAny _ _ (call (Value.builtin "len") [Value.str _ _]) _ _ _); refine len_text (by with_reducible assumption) ?_; (try dsimp only)))
local macro_rules | `(tactic| walk_at "subscriptTail Name Slice str ref") => `(tactic| (k_here; (first | (refine slice_sn_is (s := ⟨_, _, _, _, _⟩) (by with_reducible assumption) (by first | with_reducible assumption | omega) (by k_asm) (by k_asm) ?_) | (refine slice_ns_is (s := ⟨_, _, _, _, _⟩) (by with_reducible assumption) (by first | with_reducible assumption | omega) (by k_asm) (by k_asm) ?_)); intro h9 t9 k9 F9 N9; (try dsimp only)))
local macro_rules | `(tactic| walk_at "call type:str") => `(tactic| (k_here; refine str_int_is (by with_reducible assumption) (by with_reducible assumption) ?_))
local macro_rules | `(tactic| walk_at "binaryOp Mult str int") => `(tactic| (k_here; refine mul_is (by with_reducible assumption) (by decide +kernel) (by omega) (by omega) ?_; intro t9 k9; (try dsimp only)))
theorem law_text_any (ad : Addr) (x z : Int) (Dg Zr U Bh Y : Str) (q1 q2 : Tok) (hm : (ad, tupObj [.int x q1, .int z q2]) ∈ led) (fS : Str.ofString (toString (if x < 0 then -x else x)) = Dg) (fL : (if x < 0 then -x else x).natAbs < 2 ^ 64) (hdl : Dg.length ≤ 18) (e4 : Txt.mul (Str.ofString "0") 18 = Zr) (hzl : Zr.length ≤ 100) (hfz : (Zr ++ Dg).length ≤ 1000) (e5 : Txt.slice Dg none (some (-z)) = U) (e6 : Txt.slice (Zr ++ Dg) (some (-z)) none = Bh) (hU : U.length ≤ 100) (hB : Bh.length ≤ 100) (t0 : x < 0 → z = 0 → Str.ofString "-" ++ Dg = Y) (m0 : ¬ x < 0 → z = 0 → Str.ofString "" ++ Dg = Y) (t1 : x < 0 → z ≠ 0 → z < (Dg.length : Int) → Str.ofString "-" ++ U ++ Str.ofString "." ++ Bh = Y) (m1 : ¬ x < 0 → z ≠ 0 → z < (Dg.length : Int) → Str.ofString "" ++ U ++ Str.ofString "." ++ Bh = Y) (t2 : x < 0 → z ≠ 0 → ¬ z < (Dg.length : Int) → z < 18 → Str.ofString "-" ++ Str.ofString "0" ++ Str.ofString "." ++ Bh = Y) (m2 : ¬ x < 0 → z ≠ 0 → ¬ z < (Dg.length : Int) → z < 18 → Str.ofString "" ++ Str.ofString "0" ++ Str.ofString "." ++ Bh = Y) (t3 : x < 0 → z ≠ 0 → ¬ z < (Dg.length : Int) → ¬ z < 18 → Str.ofString "-" ++ Str.ofString "" ++ Str.ofString "." ++ Bh = Y) (m3 : ¬ x < 0 → z ≠ 0 → ¬ z < (Dg.length : Int) → ¬ z < 18 → Str.ofString "" ++ Str.ofString "" ++ Str.ofString "." ++ Bh = Y) : Con w loose mean mg mb 740 4 [.ref ad] led (Back led fun t => .str Y t) := by
  unfold Con
  k_fill
  intro dp un gd cn cs a ccd cl outer A₀ base h₀ L m s Q E B F X N T hkf hd hu ret
  have hdl2 : Dg.length ≤ 1000 := by omega
  refine wpAny_call ?_
  k_dflt (refine' code_def (binds := [("worth", Value.ref ad)]) ?k1 ?k2 ?k3 ?k4 ?k5 ?kA ?kF ?kK ?k6 ?k7 ?k8 ?k9 ?kB ?_ ?c2 ?c3 ?c4 ?c5; (case kA => exact rfl); (case kF => exact rfl); (case kK => first | assumption | exact rfl); (case k1 => k_asm); (case k2 => k_asm); (case k3 => k_asm); (case k4 => k_asm); (case k5 => k_asm); (case k6 => k_is); (case k7 => k_is); (case k8 => ktr_room); (case k9 => first | exact BindsTo.of_eq rfl | exact kp_binds (by k_in) (fun _ => by kernel_rfl)); (case c5 => decide); (case kB => exact locs rfl); (case c2 => exact rfl); (case c3 => exact rfl); (case c4 => exact rfl); k_whole; intro g' L' h' FG' F' N' B' X' T'; (try dsimp only); (try k_lift B'); (try k_fold))
  k_steps
  all_goals exact ret _ _ _ _ (by k_asm) (by k_asm) (backS' (by first | exact t0 (by assumption) (by assumption) | exact m0 (by assumption) (by assumption) | exact t1 (by assumption) (by assumption) (by assumption) | exact m1 (by assumption) (by assumption) (by assumption) | exact t2 (by assumption) (by assumption) (by assumption) (by assumption) | exact m2 (by assumption) (by assumption) (by assumption) (by assumption) | exact t3 (by assumption) (by assumption) (by assumption) (by assumption) | exact m3 (by assumption) (by assumption) (by assumption) (by assumption)))
end
end
theorem flush_52 : True := by
  w_top off
  first | walk1 | trivial
section
open PySem PySem.W PyProof.Rows PySem.Calls
set_option Elab.async false
set_option maxRecDepth 100000
set_option maxHeartbeats 0
section
variable {w : World} {loose : List Str} {mean : ExcName → Option Value} {mg mb : Str → Option Value} {led : Led}
theorem emp_ne {prog : Program} {w : World} {A : Around} {E : Value → Shared → Prop} {s : Shared} {h₀ : Heap} {L e1 e2 : Addr} {led : Led} {Q : Value → Shared → Prop} (N : News h₀ L s.heap led) (m1 : (e1, tupObj []) ∈ led) (m2 : (e2, tupObj []) ∈ led) (hu : A.units + 64 < cLine) (h : Q (.bool false) s) : wpAny (model prog w) A (compareOp .NotEq (.ref e1) (.ref e2)) Q E s :=
  ne_dataH (da := .tuple []) (db := .tuple []) (as := []) (bs := []) (.tuple (N _ m1).1 rfl rfl .nil) (.tuple (N _ m2).1 rfl rfl .nil) rfl rfl hu h
local macro_rules | `(tactic| walk_at "compareOp NotEq ref ref") => `(tactic| (k_here; refine emp_ne (by k_asm) (by k_mem) (by k_mem) (by ktr_units) ?_))
theorem shown_number_a (ad : Addr) (x z : Int) (q1 q2 : Tok) (hm : (ad, tupObj [.int x q1, .int z q2]) ∈ led) (Y : Str) (C : Con w loose mean mg mb 138 4 [.ref ad] led (Back led fun t => .str Y t)) (hz : (z == 18) = false) : Con w loose mean mg mb 409 6 [.ref ad] led (Back led fun t => .str Y t) := by
  unfold Con
  k_fill
  intro dp un gd cn cs a ccd cl outer A₀ base h₀ L m s Q E B F X N T hkf hd hu ret
  refine wpAny_call ?_
  k_dflt (refine' code_def (binds := [("worth", Value.ref ad)]) ?k1 ?k2 ?k3 ?k4 ?k5 ?kA ?kF ?kK ?k6 ?k7 ?k8 ?k9 ?kB ?_ ?c2 ?c3 ?c4 ?c5; (case kA => exact rfl); (case kF => exact rfl); (case kK => first | assumption | exact rfl); (case k1 => k_asm); (case k2 => k_asm); (case k3 => k_asm); (case k4 => k_asm); (case k5 => k_asm); (case k6 => k_is); (case k7 => k_is); (case k8 => ktr_room); (case k9 => first | exact BindsTo.of_eq rfl | exact kp_binds (by k_in) (fun _ => by kernel_rfl)); (case c5 => decide); (case kB => exact locs rfl); (case c2 => exact rfl); (case c3 => exact rfl); (case c4 => exact rfl); k_whole; intro g' L' h' FG' F' N' B' X' T'; (try dsimp only); (try k_lift B'); (try k_fold))
  k_steps
  refine useN (by k_asm) (by k_asm) (by k_asm) (by k_asm) (by k_asm) (by first | exact rfl | assumption) (C) (by ktr_room) (by ktr_units) ?_
  intro t9 h9 tk9 F9 N9
  (try dsimp only)
  (try k_fold)
  k_steps
  all_goals exact ret _ _ _ _ (by k_asm) (by k_asm) backS
theorem shown_number_b (ad : Addr) (x : Int) (q1 q2 : Tok) (hm : (ad, tupObj [.int x q1, .int 18 q2]) ∈ led) (Y : Str) (C : Con w loose mean mg mb 138 4 [.ref ad] led (Back led fun t => .str Y t)) (Z : Str) (hlt : decide ((if x < 0 then -x else x) < 10 ^ (18 : Int).toNat) = true) (hc : ((Builtin.Str.occurrences Y (Str.ofString "0.") 0 Y.length (1 : Int).toNat).isEmpty || ((Str.ofString "0.").length == 0 && (Str.ofString ".").length == 0)) = false) (hr : Builtin.Str.glued (Str.ofString ".") (Builtin.Str.partsBetween Y (Builtin.Str.occurrences Y (Str.ofString "0.") 0 Y.length (1 : Int).toNat) (Str.ofString "0.").length) = Z) (hyl : Y.length ≤ 1000) (hzl : Z.length ≤ 1000) : Con w loose mean mg mb 409 6 [.ref ad] led (Back led fun t => .str Z t) := by
  unfold Con
  k_fill
  intro dp un gd cn cs a ccd cl outer A₀ base h₀ L m s Q E B F X N T hkf hd hu ret
  refine wpAny_call ?_
  k_dflt (refine' code_def (binds := [("worth", Value.ref ad)]) ?k1 ?k2 ?k3 ?k4 ?k5 ?kA ?kF ?kK ?k6 ?k7 ?k8 ?k9 ?kB ?_ ?c2 ?c3 ?c4 ?c5; (case kA => exact rfl); (case kF => exact rfl); (case kK => first | assumption | exact rfl); (case k1 => k_asm); (case k2 => k_asm); (case k3 => k_asm); (case k4 => k_asm); (case k5 => k_asm); (case k6 => k_is); (case k7 => k_is); (case k8 => ktr_room); (case k9 => first | exact BindsTo.of_eq rfl | exact kp_binds (by k_in) (fun _ => by kernel_rfl)); (case c5 => decide); (case kB => exact locs rfl); (case c2 => exact rfl); (case c3 => exact rfl); (case c4 => exact rfl); k_whole; intro g' L' h' FG' F' N' B' X' T'; (try dsimp only); (try k_lift B'); (try k_fold))
  k_steps
  refine useN (by k_asm) (by k_asm) (by k_asm) (by k_asm) (by k_asm) (by first | exact rfl | assumption) (C) (by ktr_room) (by ktr_units) ?_
  intro t9 h9 tk9 F9 N9
  (try dsimp only)
  (try k_fold)
  k_steps
  refine replace4 (r := Z) (by decide) (by decide) (Nat.succ_ne_zero _) (Nat.succ_ne_zero _) (Nat.ne_of_lt (Nat.lt_succ_self _)) (by decide +kernel) hc hr hyl (by decide +kernel) hzl ?_
  intro t8 k8
  (try dsimp only)
  k_steps
  all_goals exact ret _ _ _ _ (by k_asm) (by k_asm) backS
theorem show_operand_num (po ad : Addr) (u1 : Tok) (fn : Value) (hp : (po, tupObj [.str (Str.ofString "number") u1, .ref ad]) ∈ led) (Y : Str) (C : Con w loose mean mg mb 409 6 [.ref ad] led (Back led fun t => .str Y t)) : Con w loose mean mg mb 428 14 [.ref po, fn] led (Back led fun t => .str Y t) := by
  unfold Con
  k_fill
  intro dp un gd cn cs a ccd cl outer A₀ base h₀ L m s Q E B F X N T hkf hd hu ret
  refine wpAny_call ?_
  k_dflt (refine' code_def (binds := [("operand", Value.ref po), ("show_expr", fn)]) ?k1 ?k2 ?k3 ?k4 ?k5 ?kA ?kF ?kK ?k6 ?k7 ?k8 ?k9 ?kB ?_ ?c2 ?c3 ?c4 ?c5; (case kA => exact rfl); (case kF => exact rfl); (case kK => first | assumption | exact rfl); (case k1 => k_asm); (case k2 => k_asm); (case k3 => k_asm); (case k4 => k_asm); (case k5 => k_asm); (case k6 => k_is); (case k7 => k_is); (case k8 => ktr_room); (case k9 => first | exact BindsTo.of_eq rfl | exact kp_binds (by k_in) (fun _ => by kernel_rfl)); (case c5 => decide); (case kB => exact locs rfl); (case c2 => exact rfl); (case c3 => exact rfl); (case c4 => exact rfl); k_whole; intro g' L' h' FG' F' N' B' X' T'; (try dsimp only); (try k_lift B'); (try k_fold))
  k_steps
  refine useN (by k_asm) (by k_asm) (by k_asm) (by k_asm) (by k_asm) (by first | exact rfl | assumption) (C) (by ktr_room) (by ktr_units) ?_
  intro t9 h9 tk9 F9 N9
  (try dsimp only)
  (try k_fold)
  k_steps
  all_goals exact ret _ _ _ _ (by k_asm) (by k_asm) backS
theorem show_ref_A (pr e1 e2 : Addr) (u1 u2 : Tok) (fn : Value) (hp : (pr, tupObj [.str (Str.ofString "ref") u1, .str (Str.ofString "A") u2, .ref e1, .ref e2, .none]) ∈ led) (he1 : (e1, tupObj []) ∈ led) (he2 : (e2, tupObj []) ∈ led) : Con w loose mean mg mb 421 12 [.ref pr, fn] led (Back led fun t => .str (Str.ofString "A") t) := by
  unfold Con
  k_fill
  intro dp un gd cn cs a ccd cl outer A₀ base h₀ L m s Q E B F X N T hkf hd hu ret
  refine wpAny_call ?_
  k_dflt (refine' code_def (binds := [("ref", Value.ref pr), ("show_expr", fn)]) ?k1 ?k2 ?k3 ?k4 ?k5 ?kA ?kF ?kK ?k6 ?k7 ?k8 ?k9 ?kB ?_ ?c2 ?c3 ?c4 ?c5; (case kA => exact rfl); (case kF => exact rfl); (case kK => first | assumption | exact rfl); (case k1 => k_asm); (case k2 => k_asm); (case k3 => k_asm); (case k4 => k_asm); (case k5 => k_asm); (case k6 => k_is); (case k7 => k_is); (case k8 => ktr_room); (case k9 => first | exact BindsTo.of_eq rfl | exact kp_binds (by k_in) (fun _ => by kernel_rfl)); (case c5 => decide); (case kB => exact locs rfl); (case c2 => exact rfl); (case c3 => exact rfl); (case c4 => exact rfl); k_whole; intro g' L' h' FG' F' N' B' X' T'; (try dsimp only); (try k_lift B'); (try k_fold))
  k_steps
  all_goals exact ret _ led _ _ (by k_asm) (by first | k_asm | exact news_sub (by k_asm) (by repeat (first | exact sub_self | refine sub_more ?_))) (backS' (by first | rfl | assumption | decide +kernel))
theorem show_operand_A (pr e1 e2 : Addr) (u1 u2 : Tok) (fn : Value) (hp : (pr, tupObj [.str (Str.ofString "ref") u1, .str (Str.ofString "A") u2, .ref e1, .ref e2, .none]) ∈ led) (he1 : (e1, tupObj []) ∈ led) (he2 : (e2, tupObj []) ∈ led) : Con w loose mean mg mb 428 14 [.ref pr, fn] led (Back led fun t => .str (Str.ofString "A") t) := by
  unfold Con
  k_fill
  intro dp un gd cn cs a ccd cl outer A₀ base h₀ L m s Q E B F X N T hkf hd hu ret
  refine wpAny_call ?_
  k_dflt (refine' code_def (binds := [("operand", Value.ref pr), ("show_expr", fn)]) ?k1 ?k2 ?k3 ?k4 ?k5 ?kA ?kF ?kK ?k6 ?k7 ?k8 ?k9 ?kB ?_ ?c2 ?c3 ?c4 ?c5; (case kA => exact rfl); (case kF => exact rfl); (case kK => first | assumption | exact rfl); (case k1 => k_asm); (case k2 => k_asm); (case k3 => k_asm); (case k4 => k_asm); (case k5 => k_asm); (case k6 => k_is); (case k7 => k_is); (case k8 => ktr_room); (case k9 => first | exact BindsTo.of_eq rfl | exact kp_binds (by k_in) (fun _ => by kernel_rfl)); (case c5 => decide); (case kB => exact locs rfl); (case c2 => exact rfl); (case c3 => exact rfl); (case c4 => exact rfl); k_whole; intro g' L' h' FG' F' N' B' X' T'; (try dsimp only); (try k_lift B'); (try k_fold))
  k_steps
  refine useN (by k_asm) (by k_asm) (by k_asm) (by k_asm) (by k_asm) (by first | exact rfl | assumption) (show_ref_A pr e1 e2 _ _ _ hp he1 he2) (by ktr_room) (by ktr_units) ?_
  intro t9 h9 tk9 F9 N9
  (try dsimp only)
  (try k_fold)
  k_steps
  all_goals exact ret _ _ _ _ (by k_asm) (by k_asm) backS
end
end
theorem flush_53 : True := by
  w_top off
  first | walk1 | trivial
section
open PySem PySem.W PyProof.Rows PySem.Calls
set_option Elab.async false
set_option maxRecDepth 100000
set_option maxHeartbeats 0
section
variable {w : World} {loose : List Str} {mean : ExcName → Option Value} {mg mb : Str → Option Value} {led : Led}
theorem right_text {g : Nat} {G : Str} {l : List Nat} (h : G = S [g]) : Str.ofString " " ++ G ++ Str.ofString " " ++ S l = S (32 :: g :: 32 :: l) := by
  rw [h, show Str.ofString " " = S [32] from by decide +kernel, S_app, S_app, S_app]
  rfl
theorem level_num (po ad : Addr) (x z : Int) (u1 q1 q2 : Tok) (hp : (po, tupObj [.str (Str.ofString "number") u1, .ref ad]) ∈ led) (hm : (ad, tupObj [.int x q1, .int z q2]) ∈ led) (lv : Int) (hlv : (if x < 0 then 3 else 5) = lv) : Con w loose mean mg mb 492 4 [.ref po] led (Back led fun t => .int lv t) := by
  unfold Con
  k_fill
  intro dp un gd cn cs a ccd cl outer A₀ base h₀ L m s Q E B F X N T hkf hd hu ret
  subst hlv
  refine wpAny_call ?_
  k_dflt (refine' code_def (binds := [("expr", Value.ref po)]) ?k1 ?k2 ?k3 ?k4 ?k5 ?kA ?kF ?kK ?k6 ?k7 ?k8 ?k9 ?kB ?_ ?c2 ?c3 ?c4 ?c5; (case kA => exact rfl); (case kF => exact rfl); (case kK => first | assumption | exact rfl); (case k1 => k_asm); (case k2 => k_asm); (case k3 => k_asm); (case k4 => k_asm); (case k5 => k_asm); (case k6 => k_is); (case k7 => k_is); (case k8 => ktr_room); (case k9 => first | exact BindsTo.of_eq rfl | exact kp_binds (by k_in) (fun _ => by kernel_rfl)); (case c5 => decide); (case kB => exact locs rfl); (case c2 => exact rfl); (case c3 => exact rfl); (case c4 => exact rfl); k_whole; intro g' L' h' FG' F' N' B' X' T'; (try dsimp only); (try k_lift B'); (try k_fold))
  k_steps
  all_goals exact ret _ _ _ _ (by k_asm) (by k_asm) (backI' (by first | rw [if_pos (by assumption)] | rw [if_neg (by assumption)]))
theorem level_ref (pr e1 e2 : Addr) (r1 r2 : Tok) (hr : (pr, tupObj [.str (Str.ofString "ref") r1, .str (Str.ofString "A") r2, .ref e1, .ref e2, .none]) ∈ led) : Con w loose mean mg mb 492 4 [.ref pr] led (Back led fun t => .int 5 t) := by
  unfold Con
  k_fill
  intro dp un gd cn cs a ccd cl outer A₀ base h₀ L m s Q E B F X N T hkf hd hu ret
  refine wpAny_call ?_
  k_dflt (refine' code_def (binds := [("expr", Value.ref pr)]) ?k1 ?k2 ?k3 ?k4 ?k5 ?kA ?kF ?kK ?k6 ?k7 ?k8 ?k9 ?kB ?_ ?c2 ?c3 ?c4 ?c5; (case kA => exact rfl); (case kF => exact rfl); (case kK => first | assumption | exact rfl); (case k1 => k_asm); (case k2 => k_asm); (case k3 => k_asm); (case k4 => k_asm); (case k5 => k_asm); (case k6 => k_is); (case k7 => k_is); (case k8 => ktr_room); (case k9 => first | exact BindsTo.of_eq rfl | exact kp_binds (by k_in) (fun _ => by kernel_rfl)); (case c5 => decide); (case kB => exact locs rfl); (case c2 => exact rfl); (case c3 => exact rfl); (case c4 => exact rfl); k_whole; intro g' L' h' FG' F' N' B' X' T'; (try dsimp only); (try k_lift B'); (try k_fold))
  k_steps
  all_goals exact ret _ _ _ _ (by k_asm) (by k_asm) ⟨rfl, _, rfl⟩
theorem level_mul (pb a1 a2 : Addr) (ub : Tok) (hb : (pb, tupObj [.str (Str.ofString "*") ub, .ref a1, .ref a2]) ∈ led) : Con w loose mean mg mb 492 4 [.ref pb] led (Back led fun t => .int 2 t) := by
  unfold Con
  k_fill
  intro dp un gd cn cs a ccd cl outer A₀ base h₀ L m s Q E B F X N T hkf hd hu ret
  refine wpAny_call ?_
  k_dflt (refine' code_def (binds := [("expr", Value.ref pb)]) ?k1 ?k2 ?k3 ?k4 ?k5 ?kA ?kF ?kK ?k6 ?k7 ?k8 ?k9 ?kB ?_ ?c2 ?c3 ?c4 ?c5; (case kA => exact rfl); (case kF => exact rfl); (case kK => first | assumption | exact rfl); (case k1 => k_asm); (case k2 => k_asm); (case k3 => k_asm); (case k4 => k_asm); (case k5 => k_asm); (case k6 => k_is); (case k7 => k_is); (case k8 => ktr_room); (case k9 => first | exact BindsTo.of_eq rfl | exact kp_binds (by k_in) (fun _ => by kernel_rfl)); (case c5 => decide); (case kB => exact locs rfl); (case c2 => exact rfl); (case c3 => exact rfl); (case c4 => exact rfl); k_whole; intro g' L' h' FG' F' N' B' X' T'; (try dsimp only); (try k_lift B'); (try k_fold))
  k_steps
  all_goals exact ret _ _ _ _ (by k_asm) (by k_asm) ⟨rfl, _, rfl⟩
theorem level_sub (pb a1 a2 : Addr) (ub : Tok) (hb : (pb, tupObj [.str (Str.ofString "-") ub, .ref a1, .ref a2]) ∈ led) : Con w loose mean mg mb 492 4 [.ref pb] led (Back led fun t => .int 1 t) := by
  unfold Con
  k_fill
  intro dp un gd cn cs a ccd cl outer A₀ base h₀ L m s Q E B F X N T hkf hd hu ret
  refine wpAny_call ?_
  k_dflt (refine' code_def (binds := [("expr", Value.ref pb)]) ?k1 ?k2 ?k3 ?k4 ?k5 ?kA ?kF ?kK ?k6 ?k7 ?k8 ?k9 ?kB ?_ ?c2 ?c3 ?c4 ?c5; (case kA => exact rfl); (case kF => exact rfl); (case kK => first | assumption | exact rfl); (case k1 => k_asm); (case k2 => k_asm); (case k3 => k_asm); (case k4 => k_asm); (case k5 => k_asm); (case k6 => k_is); (case k7 => k_is); (case k8 => ktr_room); (case k9 => first | exact BindsTo.of_eq rfl | exact kp_binds (by k_in) (fun _ => by kernel_rfl)); (case c5 => decide); (case kB => exact locs rfl); (case c2 => exact rfl); (case c3 => exact rfl); (case c4 => exact rfl); k_whole; intro g' L' h' FG' F' N' B' X' T'; (try dsimp only); (try k_lift B'); (try k_fold))
  k_steps
  all_goals exact ret _ _ _ _ (by k_asm) (by k_asm) ⟨rfl, _, rfl⟩
theorem bracketed_ok (po : Addr) (least lv : Int) (k9 d9 : Nat) (Y : Str) (C : ∀ led' : Led, (∀ p ∈ led, p ∈ led') → Con w loose mean mg mb 506 d9 [.ref po] led' (Back led' fun t => .str Y t)) (C2 : ∀ led' : Led, (∀ p ∈ led, p ∈ led') → Con w loose mean mg mb 492 4 [.ref po] led' (Back led' fun t => .int lv t)) (hlv : ¬ lv < least) (hd9 : 4 ≤ d9) (hd8 : d9 ≤ 100) : Con w loose mean mg mb 499 (d9 + 2) [.ref po, .int least k9] led (Back led fun t => .str Y t) := by
  unfold Con
  k_fill
  intro dp un gd cn cs a ccd cl outer A₀ base h₀ L m s Q E B F X N T hkf hd hu ret
  refine wpAny_call ?_
  k_dflt (refine' code_def (binds := [("expr", Value.ref po), ("least", Value.int least k9)]) ?k1 ?k2 ?k3 ?k4 ?k5 ?kA ?kF ?kK ?k6 ?k7 ?k8 ?k9 ?kB ?_ ?c2 ?c3 ?c4 ?c5; (case kA => exact rfl); (case kF => exact rfl); (case kK => first | assumption | exact rfl); (case k1 => k_asm); (case k2 => k_asm); (case k3 => k_asm); (case k4 => k_asm); (case k5 => k_asm); (case k6 => k_is); (case k7 => k_is); (case k8 => ktr_room); (case k9 => first | exact BindsTo.of_eq rfl | exact kp_binds (by k_in) (fun _ => by kernel_rfl)); (case c5 => decide); (case kB => exact locs rfl); (case c2 => exact rfl); (case c3 => exact rfl); (case c4 => exact rfl); k_whole; intro g' L' h' FG' F' N' B' X' T'; (try dsimp only); (try k_lift B'); (try k_fold))
  k_steps
  refine useN (by k_asm) (by k_asm) (by k_asm) (by k_asm) (by k_asm) (by first | exact rfl | assumption) (C _ (by repeat (first | exact sub_self | refine sub_more ?_))) (by ktr_room) (by ktr_units) ?_
  intro t9 h9 tk9 F9 N9
  (try dsimp only)
  (try k_fold)
  k_steps
  refine useN (by k_asm) (by k_asm) (by k_asm) (by k_asm) (by k_asm) (by first | exact rfl | assumption) (C2 _ (by repeat (first | exact sub_self | refine sub_more ?_))) (by ktr_room) (by ktr_units) ?_
  intro t9 h9 tk9 F9 N9
  (try dsimp only)
  (try k_fold)
  k_steps
  all_goals exact ret _ led _ _ (by k_asm) (by first | k_asm | exact news_sub (by k_asm) (by repeat (first | exact sub_self | refine sub_more ?_))) (backS' (by first | rfl | assumption | decide +kernel))
end
end
theorem flush_54 : True := by
  w_top off
  first | walk1 | trivial
section
open PySem PySem.W PyProof.Rows PySem.Calls
set_option Elab.async false
set_option maxRecDepth 100000
set_option maxHeartbeats 0
section
variable {w : World} {loose : List Str} {mean : ExcName → Option Value} {mg mb : Str → Option Value} {led : Led}
local macro_rules | `(tactic| walk_at "exec While") => `(tactic| (k_here; refine wpAny_While ?_))
theorem se_num (po ad : Addr) (x z : Int) (u1 q1 q2 : Tok) (hp : (po, tupObj [.str (Str.ofString "number") u1, .ref ad]) ∈ led) (hm : (ad, tupObj [.int x q1, .int z q2]) ∈ led) (ly : List Nat) (hyl : ly.length ≤ 50) (C : ∀ led' : Led, (∀ p ∈ led, p ∈ led') → Con w loose mean mg mb 428 14 [.ref po, .ref 506] led' (Back led' fun t => .str (S ly) t)) : Con w loose mean mg mb 506 16 [.ref po] led (Back led fun t => .str (S ly) t) := by
  unfold Con
  k_fill
  intro dp un gd cn cs a ccd cl outer A₀ base h₀ L m s Q E B F X N T hkf hd hu ret
  refine wpAny_call ?_
  k_dflt (refine' code_def (binds := [("expr", Value.ref po)]) ?k1 ?k2 ?k3 ?k4 ?k5 ?kA ?kF ?kK ?k6 ?k7 ?k8 ?k9 ?kB ?_ ?c2 ?c3 ?c4 ?c5; (case kA => exact rfl); (case kF => exact rfl); (case kK => first | assumption | exact rfl); (case k1 => k_asm); (case k2 => k_asm); (case k3 => k_asm); (case k4 => k_asm); (case k5 => k_asm); (case k6 => k_is); (case k7 => k_is); (case k8 => ktr_room); (case k9 => first | exact BindsTo.of_eq rfl | exact kp_binds (by k_in) (fun _ => by kernel_rfl)); (case c5 => decide); (case kB => exact locs rfl); (case c2 => exact rfl); (case c3 => exact rfl); (case c4 => exact rfl); k_whole; intro g' L' h' FG' F' N' B' X' T'; (try dsimp only); (try k_lift B'); (try k_fold))
  k_steps
  refine whl_turn (k := 0) (by passes_own) ?_
  k_steps
  refine useN (by k_asm) (by k_asm) (by k_asm) (by k_asm) (by k_asm) (by first | exact rfl | assumption) (C _ (by repeat (first | exact sub_self | refine sub_more ?_))) (by ktr_room) (by ktr_units) ?_
  intro t9 h9 tk9 F9 N9
  (try dsimp only)
  (try k_fold)
  k_steps
  refine join_revL [(S (ly), _)] (S ly) (by exact rfl) (by k_asm) (by k_asm) (.head _) (by rfl) (ktn_ltOf (by assumption)) (by rfl) (by simp only [List.reverse_cons, List.reverse_nil, List.nil_append, List.cons_append, List.map_cons, List.map_nil, List.sum_cons, List.sum_nil, len_S, List.length_cons, List.length_append, List.length_nil]; omega) (by simp) (by simpa using join_S [ly]) ?_
  intro h8 tk8 t8 F8 N8
  (try dsimp only)
  k_steps
  all_goals exact ret _ led _ _ (by k_asm) (by first | k_asm | exact news_sub (by k_asm) (by repeat (first | exact sub_self | refine sub_more ?_))) (backS' (by first | rfl | assumption | decide +kernel))
theorem se_ref (pr e1 e2 : Addr) (r1 r2 : Tok) (hr : (pr, tupObj [.str (Str.ofString "ref") r1, .str (Str.ofString "A") r2, .ref e1, .ref e2, .none]) ∈ led) (ly : List Nat) (hyl : ly.length ≤ 50) (C : ∀ led' : Led, (∀ p ∈ led, p ∈ led') → Con w loose mean mg mb 428 14 [.ref pr, .ref 506] led' (Back led' fun t => .str (S ly) t)) : Con w loose mean mg mb 506 16 [.ref pr] led (Back led fun t => .str (S ly) t) := by
  unfold Con
  k_fill
  intro dp un gd cn cs a ccd cl outer A₀ base h₀ L m s Q E B F X N T hkf hd hu ret
  refine wpAny_call ?_
  k_dflt (refine' code_def (binds := [("expr", Value.ref pr)]) ?k1 ?k2 ?k3 ?k4 ?k5 ?kA ?kF ?kK ?k6 ?k7 ?k8 ?k9 ?kB ?_ ?c2 ?c3 ?c4 ?c5; (case kA => exact rfl); (case kF => exact rfl); (case kK => first | assumption | exact rfl); (case k1 => k_asm); (case k2 => k_asm); (case k3 => k_asm); (case k4 => k_asm); (case k5 => k_asm); (case k6 => k_is); (case k7 => k_is); (case k8 => ktr_room); (case k9 => first | exact BindsTo.of_eq rfl | exact kp_binds (by k_in) (fun _ => by kernel_rfl)); (case c5 => decide); (case kB => exact locs rfl); (case c2 => exact rfl); (case c3 => exact rfl); (case c4 => exact rfl); k_whole; intro g' L' h' FG' F' N' B' X' T'; (try dsimp only); (try k_lift B'); (try k_fold))
  k_steps
  refine whl_turn (k := 0) (by passes_own) ?_
  k_steps
  refine useN (by k_asm) (by k_asm) (by k_asm) (by k_asm) (by k_asm) (by first | exact rfl | assumption) (C _ (by repeat (first | exact sub_self | refine sub_more ?_))) (by ktr_room) (by ktr_units) ?_
  intro t9 h9 tk9 F9 N9
  (try dsimp only)
  (try k_fold)
  k_steps
  refine join_revL [(S (ly), _)] (S ly) (by exact rfl) (by k_asm) (by k_asm) (.head _) (by rfl) (ktn_ltOf (by assumption)) (by rfl) (by simp only [List.reverse_cons, List.reverse_nil, List.nil_append, List.cons_append, List.map_cons, List.map_nil, List.sum_cons, List.sum_nil, len_S, List.length_cons, List.length_append, List.length_nil]; omega) (by simp) (by simpa using join_S [ly]) ?_
  intro h8 tk8 t8 F8 N8
  (try dsimp only)
  k_steps
  all_goals exact ret _ led _ _ (by k_asm) (by first | k_asm | exact news_sub (by k_asm) (by repeat (first | exact sub_self | refine sub_more ?_))) (backS' (by first | rfl | assumption | decide +kernel))
end
end
theorem flush_55 : True := by
  w_top off
  first | walk1 | trivial
section
open PySem PySem.W PyProof.Rows PySem.Calls
set_option Elab.async false
set_option maxRecDepth 100000
set_option maxHeartbeats 0
section
variable {w : World} {loose : List Str} {mean : ExcName → Option Value} {mg mb : Str → Option Value} {led : Led}
local macro_rules | `(tactic| walk_at "eval Dict") => `(tactic| (k_here; refine holdW ?_))
theorem right_mul (pb a1 a2 : Addr) (ub : Tok) (hb : (pb, tupObj [.str (Str.ofString "*") ub, .ref a1, .ref a2]) ∈ led) (d9 : Nat) (hd9 : 4 ≤ d9) (hd8 : d9 ≤ 100) (lb : List Nat) (hbl : lb.length ≤ 100) (C : ∀ (led' : Led) (k9 : Tok), (∀ p ∈ led, p ∈ led') → Con w loose mean mg mb 499 d9 [.ref a2, .int 3 k9] led' (Back led' fun t => .str (S lb) t)) : Con w loose mean mg mb 513 (d9 + 2) [.ref pb] led (Back led fun t => .str (S (32 :: 42 :: 32 :: lb)) t) := by
  unfold Con
  k_fill
  intro dp un gd cn cs a ccd cl outer A₀ base h₀ L m s Q E B F X N T hkf hd hu ret
  have hbL : (S lb).length ≤ 100 := by rw [len_S]; exact hbl
  refine wpAny_call ?_
  k_dflt (refine' code_def (binds := [("expr", Value.ref pb)]) ?k1 ?k2 ?k3 ?k4 ?k5 ?kA ?kF ?kK ?k6 ?k7 ?k8 ?k9 ?kB ?_ ?c2 ?c3 ?c4 ?c5; (case kA => exact rfl); (case kF => exact rfl); (case kK => first | assumption | exact rfl); (case k1 => k_asm); (case k2 => k_asm); (case k3 => k_asm); (case k4 => k_asm); (case k5 => k_asm); (case k6 => k_is); (case k7 => k_is); (case k8 => ktr_room); (case k9 => first | exact BindsTo.of_eq rfl | exact kp_binds (by k_in) (fun _ => by kernel_rfl)); (case c5 => decide); (case kB => exact locs rfl); (case c2 => exact rfl); (case c3 => exact rfl); (case c4 => exact rfl); k_whole; intro g' L' h' FG' F' N' B' X' T'; (try dsimp only); (try k_lift B'); (try k_fold))
  k_steps
  refine kdn_eval (knd := PySem.intKind row0.prog w) (by k_asm) (by k_asm) (Top.nolimit (by k_asm)) rfl rfl (List.cons_ne_nil _ _) (Nat.le_of_ble_eq_true rfl) ?_
  intro d' h' o' F' N' l1 lo' hd'
  (try k_lt l1)
  iterate 18 (walk1; (try dsimp only))
  refine kba_turn (value' := PySem.Expr.Name (PySem.Str.ofString "_") ⟨0, 0, 0, 0⟩) (fun _ => rfl) ?_
  refine kda_item (knd := PySem.intKind _ _) (by k_asm) (by k_mem) (by k_asm) (intKind_is _ _ _ _) (by rfl) ?_
  (try dsimp only [List.length_cons, List.length_nil])
  k_steps
  refine useN (by k_asm) (by k_asm) (by k_asm) (by k_asm) (by k_asm) (by first | exact rfl | assumption) (C _ _ (by repeat (first | exact sub_self | refine sub_more ?_))) (by ktr_room) (by ktr_units) ?_
  intro t9 h9 tk9 F9 N9
  (try dsimp only)
  (try k_fold)
  k_steps
  all_goals exact ret _ led _ _ (by k_asm) (by first | k_asm | exact news_sub (by k_asm) (by repeat (first | exact sub_self | refine sub_more ?_))) (backS' (by first | exact right_text (by decide +kernel) | rfl | assumption | decide +kernel))
theorem right_sub (pb a1 a2 : Addr) (ub : Tok) (hb : (pb, tupObj [.str (Str.ofString "-") ub, .ref a1, .ref a2]) ∈ led) (d9 : Nat) (hd9 : 4 ≤ d9) (hd8 : d9 ≤ 100) (lb : List Nat) (hbl : lb.length ≤ 100) (C : ∀ (led' : Led) (k9 : Tok), (∀ p ∈ led, p ∈ led') → Con w loose mean mg mb 499 d9 [.ref a2, .int 2 k9] led' (Back led' fun t => .str (S lb) t)) : Con w loose mean mg mb 513 (d9 + 2) [.ref pb] led (Back led fun t => .str (S (32 :: 45 :: 32 :: lb)) t) := by
  unfold Con
  k_fill
  intro dp un gd cn cs a ccd cl outer A₀ base h₀ L m s Q E B F X N T hkf hd hu ret
  have hbL : (S lb).length ≤ 100 := by rw [len_S]; exact hbl
  refine wpAny_call ?_
  k_dflt (refine' code_def (binds := [("expr", Value.ref pb)]) ?k1 ?k2 ?k3 ?k4 ?k5 ?kA ?kF ?kK ?k6 ?k7 ?k8 ?k9 ?kB ?_ ?c2 ?c3 ?c4 ?c5; (case kA => exact rfl); (case kF => exact rfl); (case kK => first | assumption | exact rfl); (case k1 => k_asm); (case k2 => k_asm); (case k3 => k_asm); (case k4 => k_asm); (case k5 => k_asm); (case k6 => k_is); (case k7 => k_is); (case k8 => ktr_room); (case k9 => first | exact BindsTo.of_eq rfl | exact kp_binds (by k_in) (fun _ => by kernel_rfl)); (case c5 => decide); (case kB => exact locs rfl); (case c2 => exact rfl); (case c3 => exact rfl); (case c4 => exact rfl); k_whole; intro g' L' h' FG' F' N' B' X' T'; (try dsimp only); (try k_lift B'); (try k_fold))
  k_steps
  refine kdn_eval (knd := PySem.intKind row0.prog w) (by k_asm) (by k_asm) (Top.nolimit (by k_asm)) rfl rfl (List.cons_ne_nil _ _) (Nat.le_of_ble_eq_true rfl) ?_
  intro d' h' o' F' N' l1 lo' hd'
  (try k_lt l1)
  iterate 18 (walk1; (try dsimp only))
  refine kba_turn (value' := PySem.Expr.Name (PySem.Str.ofString "_") ⟨0, 0, 0, 0⟩) (fun _ => rfl) ?_
  refine kda_item (knd := PySem.intKind _ _) (by k_asm) (by k_mem) (by k_asm) (intKind_is _ _ _ _) (by rfl) ?_
  (try dsimp only [List.length_cons, List.length_nil])
  k_steps
  refine useN (by k_asm) (by k_asm) (by k_asm) (by k_asm) (by k_asm) (by first | exact rfl | assumption) (C _ _ (by repeat (first | exact sub_self | refine sub_more ?_))) (by ktr_room) (by ktr_units) ?_
  intro t9 h9 tk9 F9 N9
  (try dsimp only)
  (try k_fold)
  k_steps
  all_goals exact ret _ led _ _ (by k_asm) (by first | k_asm | exact news_sub (by k_asm) (by repeat (first | exact sub_self | refine sub_more ?_))) (backS' (by first | exact right_text (by decide +kernel) | rfl | assumption | decide +kernel))
theorem right_add (pb a1 a2 : Addr) (ub : Tok) (hb : (pb, tupObj [.str (Str.ofString "+") ub, .ref a1, .ref a2]) ∈ led) (d9 : Nat) (hd9 : 4 ≤ d9) (hd8 : d9 ≤ 100) (lb : List Nat) (hbl : lb.length ≤ 100) (C : ∀ (led' : Led) (k9 : Tok), (∀ p ∈ led, p ∈ led') → Con w loose mean mg mb 499 d9 [.ref a2, .int 2 k9] led' (Back led' fun t => .str (S lb) t)) : Con w loose mean mg mb 513 (d9 + 2) [.ref pb] led (Back led fun t => .str (S (32 :: 43 :: 32 :: lb)) t) := by
  unfold Con
  k_fill
  intro dp un gd cn cs a ccd cl outer A₀ base h₀ L m s Q E B F X N T hkf hd hu ret
  have hbL : (S lb).length ≤ 100 := by rw [len_S]; exact hbl
  refine wpAny_call ?_
  k_dflt (refine' code_def (binds := [("expr", Value.ref pb)]) ?k1 ?k2 ?k3 ?k4 ?k5 ?kA ?kF ?kK ?k6 ?k7 ?k8 ?k9 ?kB ?_ ?c2 ?c3 ?c4 ?c5; (case kA => exact rfl); (case kF => exact rfl); (case kK => first | assumption | exact rfl); (case k1 => k_asm); (case k2 => k_asm); (case k3 => k_asm); (case k4 => k_asm); (case k5 => k_asm); (case k6 => k_is); (case k7 => k_is); (case k8 => ktr_room); (case k9 => first | exact BindsTo.of_eq rfl | exact kp_binds (by k_in) (fun _ => by kernel_rfl)); (case c5 => decide); (case kB => exact locs rfl); (case c2 => exact rfl); (case c3 => exact rfl); (case c4 => exact rfl); k_whole; intro g' L' h' FG' F' N' B' X' T'; (try dsimp only); (try k_lift B'); (try k_fold))
  k_steps
  refine kdn_eval (knd := PySem.intKind row0.prog w) (by k_asm) (by k_asm) (Top.nolimit (by k_asm)) rfl rfl (List.cons_ne_nil _ _) (Nat.le_of_ble_eq_true rfl) ?_
  intro d' h' o' F' N' l1 lo' hd'
  (try k_lt l1)
  iterate 18 (walk1; (try dsimp only))
  refine kba_turn (value' := PySem.Expr.Name (PySem.Str.ofString "_") ⟨0, 0, 0, 0⟩) (fun _ => rfl) ?_
  refine kda_item (knd := PySem.intKind _ _) (by k_asm) (by k_mem) (by k_asm) (intKind_is _ _ _ _) (by rfl) ?_
  (try dsimp only [List.length_cons, List.length_nil])
  k_steps
  refine useN (by k_asm) (by k_asm) (by k_asm) (by k_asm) (by k_asm) (by first | exact rfl | assumption) (C _ _ (by repeat (first | exact sub_self | refine sub_more ?_))) (by ktr_room) (by ktr_units) ?_
  intro t9 h9 tk9 F9 N9
  (try dsimp only)
  (try k_fold)
  k_steps
  all_goals exact ret _ led _ _ (by k_asm) (by first | k_asm | exact news_sub (by k_asm) (by repeat (first | exact sub_self | refine sub_more ?_))) (backS' (by first | exact right_text (by decide +kernel) | rfl | assumption | decide +kernel))
end
end
theorem flush_56 : True := by
  w_top off
  first | walk1 | trivial
section
open PySem PySem.W PyProof.Rows PySem.Calls
set_option Elab.async false
set_option maxRecDepth 100000
set_option maxHeartbeats 0
section
variable {w : World} {loose : List Str} {mean : ExcName → Option Value} {mg mb : Str → Option Value} {led : Led}
local macro_rules | `(tactic| walk_at "exec While") => `(tactic| (k_here; refine wpAny_While ?_))
theorem se_mul (pb po a2 : Addr) (ub : Tok) (hb : (pb, tupObj [.str (Str.ofString "*") ub, .ref po, .ref a2]) ∈ led) (ad : Addr) (x z : Int) (u1 q1 q2 : Tok) (hp : (po, tupObj [.str (Str.ofString "number") u1, .ref ad]) ∈ led) (hm : (ad, tupObj [.int x q1, .int z q2]) ∈ led) (d9 : Nat) (hd9 : 16 ≤ d9) (hd8 : d9 ≤ 100) (lv : Int) (hlv : lv ≥ 2) (C2 : ∀ led' : Led, (∀ p ∈ led, p ∈ led') → Con w loose mean mg mb 492 4 [.ref po] led' (Back led' fun t => .int lv t)) (ly lr : List Nat) (hyl : ly.length ≤ 50) (hrl : lr.length ≤ 50) (C3 : ∀ led' : Led, (∀ p ∈ led, p ∈ led') → Con w loose mean mg mb 513 d9 [.ref pb] led' (Back led' fun t => .str (S lr) t)) (C : ∀ led' : Led, (∀ p ∈ led, p ∈ led') → Con w loose mean mg mb 428 14 [.ref po, .ref 506] led' (Back led' fun t => .str (S ly) t)) : Con w loose mean mg mb 506 (d9 + 2) [.ref pb] led (Back led fun t => .str (S (ly ++ lr)) t) := by
  unfold Con
  k_fill
  intro dp un gd cn cs a ccd cl outer A₀ base h₀ L m s Q E B F X N T hkf hd hu ret
  refine wpAny_call ?_
  k_dflt (refine' code_def (binds := [("expr", Value.ref pb)]) ?k1 ?k2 ?k3 ?k4 ?k5 ?kA ?kF ?kK ?k6 ?k7 ?k8 ?k9 ?kB ?_ ?c2 ?c3 ?c4 ?c5; (case kA => exact rfl); (case kF => exact rfl); (case kK => first | assumption | exact rfl); (case k1 => k_asm); (case k2 => k_asm); (case k3 => k_asm); (case k4 => k_asm); (case k5 => k_asm); (case k6 => k_is); (case k7 => k_is); (case k8 => ktr_room); (case k9 => first | exact BindsTo.of_eq rfl | exact kp_binds (by k_in) (fun _ => by kernel_rfl)); (case c5 => decide); (case kB => exact locs rfl); (case c2 => exact rfl); (case c3 => exact rfl); (case c4 => exact rfl); k_whole; intro g' L' h' FG' F' N' B' X' T'; (try dsimp only); (try k_lift B'); (try k_fold))
  k_steps
  refine whl_turn (k := 0) (by passes_own) ?_
  k_steps
  refine useN (by k_asm) (by k_asm) (by k_asm) (by k_asm) (by k_asm) (by first | exact rfl | assumption) (C2 _ (by repeat (first | exact sub_self | refine sub_more ?_))) (by ktr_room) (by ktr_units) ?_
  intro t9 h9 tk9 F9 N9
  (try dsimp only)
  (try k_fold)
  k_steps
  refine useN (by k_asm) (by k_asm) (by k_asm) (by k_asm) (by k_asm) (by first | exact rfl | assumption) (C3 _ (by repeat (first | exact sub_self | refine sub_more ?_))) (by ktr_room) (by ktr_units) ?_
  intro t9 h9 tk9 F9 N9
  (try dsimp only)
  (try k_fold)
  k_steps
  exact 0
  k_steps
  refine useN (by k_asm) (by k_asm) (by k_asm) (by k_asm) (by k_asm) (by first | exact rfl | assumption) (C _ (by repeat (first | exact sub_self | refine sub_more ?_))) (by ktr_room) (by ktr_units) ?_
  intro t9 h9 tk9 F9 N9
  (try dsimp only)
  (try k_fold)
  k_steps
  refine join_revL [(S (lr), _), (S (ly), _)] (S (ly ++ lr)) (by exact rfl) (by k_asm) (by k_asm) (.head _) (by rfl) (ktn_ltOf (by assumption)) (by rfl) (by simp only [List.reverse_cons, List.reverse_nil, List.nil_append, List.cons_append, List.map_cons, List.map_nil, List.sum_cons, List.sum_nil, len_S, List.length_cons, List.length_append, List.length_nil]; omega) (by simp) (by simpa using join_S [ly, lr]) ?_
  intro h8 tk8 t8 F8 N8
  (try dsimp only)
  k_steps
  all_goals exact ret _ led _ _ (by k_asm) (by first | k_asm | exact news_sub (by k_asm) (by repeat (first | exact sub_self | refine sub_more ?_))) (backS' (by first | rfl | assumption | decide +kernel))
theorem se_add (pe pm pb : Addr) (ue : Tok) (he : (pe, tupObj [.str (Str.ofString "+") ue, .ref pm, .ref pb]) ∈ led) (pr po : Addr) (um : Tok) (hb : (pm, tupObj [.str (Str.ofString "-") um, .ref pr, .ref po]) ∈ led) (e1 e2 : Addr) (r1 r2 : Tok) (hr : (pr, tupObj [.str (Str.ofString "ref") r1, .str (Str.ofString "A") r2, .ref e1, .ref e2, .none]) ∈ led) (d9 : Nat) (hd9 : 16 ≤ d9) (hd8 : d9 ≤ 100) (lr lm : List Nat) (hrl : lr.length ≤ 50) (hml : lm.length ≤ 50) (C3 : ∀ led' : Led, (∀ p ∈ led, p ∈ led') → Con w loose mean mg mb 513 d9 [.ref pe] led' (Back led' fun t => .str (S lr) t)) (C4 : ∀ led' : Led, (∀ p ∈ led, p ∈ led') → Con w loose mean mg mb 513 d9 [.ref pm] led' (Back led' fun t => .str (S lm) t)) (C : ∀ led' : Led, (∀ p ∈ led, p ∈ led') → Con w loose mean mg mb 428 14 [.ref pr, .ref 506] led' (Back led' fun t => .str (S [65]) t)) : Con w loose mean mg mb 506 (d9 + 2) [.ref pe] led (Back led fun t => .str (S (65 :: (lm ++ lr))) t) := by
  unfold Con
  k_fill
  intro dp un gd cn cs a ccd cl outer A₀ base h₀ L m s Q E B F X N T hkf hd hu ret
  refine wpAny_call ?_
  k_dflt (refine' code_def (binds := [("expr", Value.ref pe)]) ?k1 ?k2 ?k3 ?k4 ?k5 ?kA ?kF ?kK ?k6 ?k7 ?k8 ?k9 ?kB ?_ ?c2 ?c3 ?c4 ?c5; (case kA => exact rfl); (case kF => exact rfl); (case kK => first | assumption | exact rfl); (case k1 => k_asm); (case k2 => k_asm); (case k3 => k_asm); (case k4 => k_asm); (case k5 => k_asm); (case k6 => k_is); (case k7 => k_is); (case k8 => ktr_room); (case k9 => first | exact BindsTo.of_eq rfl | exact kp_binds (by k_in) (fun _ => by kernel_rfl)); (case c5 => decide); (case kB => exact locs rfl); (case c2 => exact rfl); (case c3 => exact rfl); (case c4 => exact rfl); k_whole; intro g' L' h' FG' F' N' B' X' T'; (try dsimp only); (try k_lift B'); (try k_fold))
  k_steps
  refine whl_turn (k := 0) (by passes_own) ?_
  k_steps
  refine useN (by k_asm) (by k_asm) (by k_asm) (by k_asm) (by k_asm) (by first | exact rfl | assumption) (level_sub _ _ _ _ (by k_mem)) (by ktr_room) (by ktr_units) ?_
  intro t9 h9 tk9 F9 N9
  (try dsimp only)
  (try k_fold)
  k_steps
  refine useN (by k_asm) (by k_asm) (by k_asm) (by k_asm) (by k_asm) (by first | exact rfl | assumption) (C3 _ (by repeat (first | exact sub_self | refine sub_more ?_))) (by ktr_room) (by ktr_units) ?_
  intro t9 h9 tk9 F9 N9
  (try dsimp only)
  (try k_fold)
  k_steps
  exact 0
  k_steps
  refine useN (by k_asm) (by k_asm) (by k_asm) (by k_asm) (by k_asm) (by first | exact rfl | assumption) (level_ref _ _ _ _ _ (by k_mem)) (by ktr_room) (by ktr_units) ?_
  intro t9 h9 tk9 F9 N9
  (try dsimp only)
  (try k_fold)
  k_steps
  refine useN (by k_asm) (by k_asm) (by k_asm) (by k_asm) (by k_asm) (by first | exact rfl | assumption) (C4 _ (by repeat (first | exact sub_self | refine sub_more ?_))) (by ktr_room) (by ktr_units) ?_
  intro t9 h9 tk9 F9 N9
  (try dsimp only)
  (try k_fold)
  k_steps
  exact 0
  k_steps
  refine useN (by k_asm) (by k_asm) (by k_asm) (by k_asm) (by k_asm) (by first | exact rfl | assumption) (C _ (by repeat (first | exact sub_self | refine sub_more ?_))) (by ktr_room) (by ktr_units) ?_
  intro t9 h9 tk9 F9 N9
  (try dsimp only)
  (try k_fold)
  k_steps
  refine join_revL [(S (lr), _), (S (lm), _), (S ([65]), _)] (S (65 :: (lm ++ lr))) (by exact rfl) (by k_asm) (by k_asm) (.head _) (by rfl) (ktn_ltOf (by assumption)) (by rfl) (by simp only [List.reverse_cons, List.reverse_nil, List.nil_append, List.cons_append, List.map_cons, List.map_nil, List.sum_cons, List.sum_nil, len_S, List.length_cons, List.length_append, List.length_nil]; omega) (by simp) (by simpa using join_S [[65], lm, lr]) ?_
  intro h8 tk8 t8 F8 N8
  (try dsimp only)
  k_steps
  all_goals exact ret _ led _ _ (by k_asm) (by first | k_asm | exact news_sub (by k_asm) (by repeat (first | exact sub_self | refine sub_more ?_))) (backS' (by first | rfl | assumption | decide +kernel))
end
end
theorem flush_57 : True := by
  w_top off
  first | walk1 | trivial
end
theorem flush_58 : True := by
  w_top off
  first | walk1 | trivial
section
open PySem PySem.W PyProof.Rows PySem.Calls
open Builtin Builtin.Str
set_option Elab.async false
set_option maxRecDepth 100000
theorem glue_at (p q : List Nat) : glued (S [46]) (partsBetween (S (p ++ 48 :: 46 :: q)) [p.length] 2) = S (p ++ 46 :: q) := by
  have e1 : strSub (S (p ++ 48 :: 46 :: q)) 0 p.length = S p := by
    unfold strSub
    congr 1
    apply Array.ext'
    simp
  have e2 : strSub (S (p ++ 48 :: 46 :: q)) (p.length + 2) (S (p ++ 48 :: 46 :: q)).length = S q := by
    unfold strSub
    congr 1
    apply Array.ext'
    rw [len_S]
    simp [List.drop_append, List.drop_eq_nil_of_le]
    exact List.take_of_length_le (by omega)
  unfold partsBetween
  show glued (S [46]) [strSub _ 0 p.length, strSub _ (p.length + 2) _] = _
  rw [e1, e2]
  show S p ++ S [46] ++ S q = _
  rw [S_app, S_app, List.append_assoc]
  rfl
theorem occ_at (neg : Bool) (q : List Nat) : occurrences (S (sgn neg ++ 48 :: 46 :: q)) (S [48, 46]) 0 (S (sgn neg ++ 48 :: 46 :: q)).length 1 = [(sgn neg).length] := by
  refine occ1_of _ _ _ (by simp) (by simp) fun k hk e => ?_
  cases neg with
  | false => exact absurd hk (Nat.not_lt_zero _)
  | true =>
    have : k = 0 := by have : k < 1 := hk; omega
    subst this
    exact absurd (List.cons.inj e).1 (by decide)
theorem wtx_ntx {n sc : Nat} (h : sc ≠ 18) : wtx n sc = ntx n sc := by
  unfold wtx ntx aheadOf behindOf
  rw [if_neg h]
theorem wtx_18 {n : Nat} (hn : n < 10 ^ 18) : wtx n 18 = 48 :: 46 :: behindOf n 18 ∧ ntx n 18 = 46 :: behindOf n 18 := by
  have hd : (digs n).length ≤ 18 := (digs_le (by decide)).mpr hn
  have hf : (fig n 18).length = 19 := by
    unfold fig
    rw [List.length_append, List.length_replicate]
    omega
  have h1 : (fig n 18).take 1 = [48] := by
    unfold fig
    rw [show 18 + 1 - (digs n).length = (18 - (digs n).length) + 1 by omega, List.replicate_succ]
    rfl
  unfold wtx ntx aheadOf behindOf
  rw [hf, if_neg (by decide), if_neg (by decide), if_pos rfl, h1]
  exact ⟨rfl, rfl⟩
theorem sgn_if (x : Int) : (if x < 0 then [45] else []) = sgn (decide (x < 0)) := by
  unfold sgn
  by_cases h : x < 0
  · rw [if_pos h, decide_eq_true h, if_pos rfl]
  · rw [if_neg h, decide_eq_false h, if_neg Bool.false_ne_true]
section
variable {w : World} {loose : List Str} {mean : ExcName → Option Value} {mg mb : Str → Option Value} {led : Led}
theorem shown_number_ok (ad : Addr) (x : Int) (n sc : Nat) (q1 q2 : Tok) (hm : (ad, tupObj [.int x q1, .int (sc : Int) q2]) ∈ led) (hx : x.natAbs = n) (hn : n < 10 ^ 18) (hs : sc ≤ 18) : Con w loose mean mg mb 409 6 [.ref ad] led (Back led fun t => .str (S (sgn (decide (x < 0)) ++ ntx n sc)) t) := by
  have C := write_decimal_ok (w := w) (loose := loose) (mean := mean) (mg := mg) (mb := mb) ad x n sc q1 q2 hm hx hn hs
  rw [sgn_if] at C
  by_cases h : sc = 18
  · subst h
    obtain ⟨h1, h2⟩ := wtx_18 hn
    have hl := behind_len n 18
    rw [h1] at C
    rw [h2]
    have hlt : decide ((if x < 0 then -x else x) < 10 ^ (18 : Int).toNat) = true := by
      rw [abs_is hx]
      refine decide_eq_true ?_
      have : ((n : Nat) : Int) < ((10 ^ 18 : Nat) : Int) := by exact_mod_cast hn
      exact this
    have e0 : Str.ofString "0." = S [48, 46] := by decide +kernel
    have hsl := sgn_len (decide (x < 0))
    refine shown_number_b ad x q1 q2 hm _ C _ hlt ?_ ?_ ?_ ?_
    · rw [e0, show (1 : Int).toNat = 1 from rfl, occ_at, len_S, dots, len_S]; rfl
    · rw [e0, show (1 : Int).toNat = 1 from rfl, occ_at, dots, show (S [48, 46]).length = 2 from rfl]
      exact glue_at _ _
    · rw [len_S]; simp; omega
    · rw [len_S]; simp; omega
  · rw [wtx_ntx h] at C
    refine shown_number_a ad x sc q1 q2 hm _ C ?_
    rw [beq_eq_false_iff_ne]
    omega
structure ExprAt (led : Led) (pe pm pb pr po ad e1 e2 : Addr) (x : Int) (sc : Nat) : Prop where
  num : ∃ u, (po, tupObj [.str (Str.ofString "number") u, .ref ad]) ∈ led
  pair : ∃ u v, (ad, tupObj [.int x u, .int (sc : Int) v]) ∈ led
  ref : ∃ u v, (pr, tupObj [.str (Str.ofString "ref") u, .str (Str.ofString "A") v, .ref e1, .ref e2, .none]) ∈ led
  emp1 : (e1, tupObj []) ∈ led
  emp2 : (e2, tupObj []) ∈ led
  mul : ∃ u, (pb, tupObj [.str (Str.ofString "*") u, .ref po, .ref pr]) ∈ led
  sub : ∃ u, (pm, tupObj [.str (Str.ofString "-") u, .ref pr, .ref po]) ∈ led
  add : ∃ u, (pe, tupObj [.str (Str.ofString "+") u, .ref pm, .ref pb]) ∈ led
theorem sA : Str.ofString "A" = S [65] := by decide +kernel
theorem show_expression_ok (pe pm pb pr po ad e1 e2 : Addr) (x : Int) (n sc : Nat) (H : ExprAt led pe pm pb pr po ad e1 e2 x sc) (hx : x.natAbs = n) (hn : n < 10 ^ 18) (hs : sc ≤ 18) : Con w loose mean mg mb 506 30 [.ref pe] led (Back led fun t => .str (S (exText (decide (x < 0)) (ntx n sc))) t) := by
  obtain ⟨⟨u1, m1⟩, ⟨u2, v2, m2⟩, ⟨u3, v3, m3⟩, m4, m5, ⟨u6, m6⟩, ⟨u7, m7⟩, ⟨u8, m8⟩⟩ := H
  have hlen : (sgn (decide (x < 0)) ++ ntx n sc).length ≤ 20 := by
    obtain ⟨a, b, h⟩ := shape_ntx hn hs
    have := nm_len h (decide (x < 0))
    rwa [len_S] at this
  generalize hl : sgn (decide (x < 0)) ++ ntx n sc = l at hlen
  have hex : exText (decide (x < 0)) (ntx n sc) = 65 :: ((32 :: 45 :: 32 :: l) ++ (32 :: 43 :: 32 :: (l ++ (32 :: 42 :: 32 :: [65])))) := by
    rw [← hl]
    unfold exText
    simp only [List.append_assoc, List.cons_append]
  have S1 : ∀ led' : Led, (∀ p ∈ led, p ∈ led') → Con w loose mean mg mb 409 6 [.ref ad] led' (Back led' fun t => .str (S l) t) := fun led' h => hl ▸ shown_number_ok ad x n sc u2 v2 (h _ m2) hx hn hs
  have SO : ∀ led' : Led, (∀ p ∈ led, p ∈ led') → Con w loose mean mg mb 428 14 [.ref po, .ref 506] led' (Back led' fun t => .str (S l) t) := fun led' h => show_operand_num po ad u1 _ (h _ m1) _ (S1 led' h)
  have SR : ∀ led' : Led, (∀ p ∈ led, p ∈ led') → Con w loose mean mg mb 428 14 [.ref pr, .ref 506] led' (Back led' fun t => .str (S [65]) t) := fun led' h => sA ▸ show_operand_A pr e1 e2 u3 v3 _ (h _ m3) (h _ m4) (h _ m5)
  have EN : ∀ led' : Led, (∀ p ∈ led, p ∈ led') → Con w loose mean mg mb 506 16 [.ref po] led' (Back led' fun t => .str (S l) t) := fun led' h => se_num po ad x sc u1 u2 v2 (h _ m1) (h _ m2) l (by omega) fun led2 h2 => SO led2 fun p hp => h2 p (h p hp)
  have ER : ∀ led' : Led, (∀ p ∈ led, p ∈ led') → Con w loose mean mg mb 506 16 [.ref pr] led' (Back led' fun t => .str (S [65]) t) := fun led' h => se_ref pr e1 e2 u3 v3 (h _ m3) [65] (by decide) fun led2 h2 => SR led2 fun p hp => h2 p (h p hp)
  have LN : ∀ led' : Led, (∀ p ∈ led, p ∈ led') → Con w loose mean mg mb 492 4 [.ref po] led' (Back led' fun t => .int (if x < 0 then 3 else 5) t) := fun led' h => level_num po ad x sc u1 u2 v2 (h _ m1) (h _ m2) _ rfl
  have LR : ∀ led' : Led, (∀ p ∈ led, p ∈ led') → Con w loose mean mg mb 492 4 [.ref pr] led' (Back led' fun t => .int 5 t) := fun led' h => level_ref pr e1 e2 u3 v3 (h _ m3)
  have RM : ∀ led' : Led, (∀ p ∈ led, p ∈ led') → Con w loose mean mg mb 513 20 [.ref pb] led' (Back led' fun t => .str (S (32 :: 42 :: 32 :: [65])) t) := fun led' h => right_mul pb po pr u6 (h _ m6) 18 (by decide) (by decide) [65] (by decide) fun led2 k2 h2 => bracketed_ok pr 3 5 k2 16 _ (fun led3 h3 => ER led3 fun p hp => h3 p (h2 p (h p hp))) (fun led3 h3 => LR led3 fun p hp => h3 p (h2 p (h p hp))) (by decide) (by decide) (by decide)
  have RS : ∀ led' : Led, (∀ p ∈ led, p ∈ led') → Con w loose mean mg mb 513 20 [.ref pm] led' (Back led' fun t => .str (S (32 :: 45 :: 32 :: l)) t) := fun led' h => right_sub pm pr po u7 (h _ m7) 18 (by decide) (by decide) l (by omega) fun led2 k2 h2 => bracketed_ok po 2 _ k2 16 _ (fun led3 h3 => EN led3 fun p hp => h3 p (h2 p (h p hp))) (fun led3 h3 => LN led3 fun p hp => h3 p (h2 p (h p hp))) (by split <;> decide) (by decide) (by decide)
  have EM : ∀ led' : Led, (∀ p ∈ led, p ∈ led') → Con w loose mean mg mb 506 22 [.ref pb] led' (Back led' fun t => .str (S (l ++ (32 :: 42 :: 32 :: [65]))) t) := fun led' h => se_mul pb po pr u6 (h _ m6) ad x sc u1 u2 v2 (h _ m1) (h _ m2) 20 (by decide) (by decide) _ (by split <;> decide) (fun led2 h2 => LN led2 fun p hp => h2 p (h p hp)) l _ (by omega) (by decide) (fun led2 h2 => RM led2 fun p hp => h2 p (h p hp)) (fun led2 h2 => SO led2 fun p hp => h2 p (h p hp))
  have LM : ∀ led' : Led, (∀ p ∈ led, p ∈ led') → Con w loose mean mg mb 492 4 [.ref pb] led' (Back led' fun t => .int 2 t) := fun led' h => level_mul pb po pr u6 (h _ m6)
  have RA : ∀ led' : Led, (∀ p ∈ led, p ∈ led') → Con w loose mean mg mb 513 26 [.ref pe] led' (Back led' fun t => .str (S (32 :: 43 :: 32 :: (l ++ (32 :: 42 :: 32 :: [65])))) t) := fun led' h => right_add pe pm pb u8 (h _ m8) 24 (by decide) (by decide) _ (by rw [List.length_append]; simp; omega) fun led2 k2 h2 => bracketed_ok pb 2 2 k2 22 _ (fun led3 h3 => EM led3 fun p hp => h3 p (h2 p (h p hp))) (fun led3 h3 => LM led3 fun p hp => h3 p (h2 p (h p hp))) (by decide) (by decide) (by decide)
  rw [hex]
  exact con_dep (se_add pe pm pb u8 m8 pr po u7 m7 e1 e2 u3 v3 m3 26 (by decide) (by decide) (32 :: 43 :: 32 :: (l ++ (32 :: 42 :: 32 :: [65]))) (32 :: 45 :: 32 :: l) (by simp; omega) (by simp; omega) RA (fun led2 h2 => con_dep (RS led2 h2) (by decide)) SR) (by decide)
end
end
theorem flush_59 : True := by
  w_top off
  first | walk1 | trivial
section
open PySem PySem.W PyProof.Rows PySem.Calls
set_option Elab.async false
set_option maxRecDepth 100000
theorem last_pad (k c sc : Nat) (l : List Nat) (h : sc ≤ k + l.length) : (List.replicate k c ++ l).drop (k + l.length - sc) = List.replicate (sc - l.length) c ++ l.drop (l.length - sc) := by
  rw [List.drop_append, List.drop_replicate, List.length_replicate]
  rcases Nat.le_total sc l.length with h1 | h1
  · rw [Nat.add_sub_assoc h1, Nat.sub_eq_zero_of_le (Nat.le_add_right k _), Nat.sub_eq_zero_of_le h1, Nat.add_sub_cancel_left]
  · rw [← Nat.sub_sub_right k h1, Nat.sub_sub_self (Nat.sub_le_iff_le_add.mpr h), Nat.sub_eq_zero_of_le h1, Nat.sub_eq_zero_of_le (Nat.sub_le _ _)]
theorem fig_length (n sc : Nat) : (fig n sc).length = (sc + 1 - (digs n).length) + (digs n).length := by
  unfold fig
  rw [List.length_append, List.length_replicate]
theorem behind_is {n sc : Nat} (hd : (digs n).length ≤ 18) (hs : sc ≤ 18) : (List.replicate 18 48 ++ digs n).drop (18 + (digs n).length - sc) = behindOf n sc := by
  unfold behindOf
  rw [last_pad 18 48 sc (digs n) (by omega), fig_length]
  unfold fig
  rw [last_pad _ 48 sc (digs n) (by omega)]
theorem ahead_big {n sc : Nat} (hd : (digs n).length ≤ 18) (h : sc < (digs n).length) : (digs n).take ((digs n).length - sc) = aheadOf n sc := by
  unfold aheadOf
  rw [if_neg (by omega), fig_length]
  unfold fig
  rw [show sc + 1 - (digs n).length = 0 by omega, Nat.zero_add]
  rfl
theorem ahead_zero {n sc : Nat} (h : ¬ sc < (digs n).length) (hs : sc < 18) : [48] = aheadOf n sc := by
  unfold aheadOf
  rw [if_neg (by omega), fig_length, show sc + 1 - (digs n).length + (digs n).length - sc = 1 by omega]
  unfold fig
  rw [show sc + 1 - (digs n).length = (sc - (digs n).length) + 1 by omega, List.replicate_succ]
  rfl
section
variable {w : World} {loose : List Str} {mean : ExcName → Option Value} {mg mb : Str → Option Value} {led : Led}
theorem law_text_ok (ad : Addr) (x : Int) (n sc : Nat) (q1 q2 : Tok) (hm : (ad, tupObj [.int x q1, .int (sc : Int) q2]) ∈ led) (hx : x.natAbs = n) (hn : n < 10 ^ 18) (hs : sc ≤ 18) : Con w loose mean mg mb 740 4 [.ref ad] led (Back led fun t => .str (S (sgn (decide (x < 0)) ++ ntx n sc)) t) := by
  have hax := abs_is hx
  have fS : Str.ofString (toString (if x < 0 then -x else x)) = S (digs n) := by rw [hax]; exact str_digs n
  have fL : (if x < 0 then -x else x).natAbs < 2 ^ 64 := by rw [hax]; omega
  have hd : (digs n).length ≤ 18 := (digs_le (by decide)).mpr hn
  have hdl : (S (digs n)).length ≤ 18 := by rw [len_S]; exact hd
  have em : Str.ofString "-" = S [45] := by decide +kernel
  have e0 : Str.ofString "0" = S [48] := by decide +kernel
  have e4 : Txt.mul (Str.ofString "0") 18 = S (List.replicate 18 48) := mul_zeros 18
  have eA : S (List.replicate 18 48) ++ S (digs n) = S (List.replicate 18 48 ++ digs n) := S_app _ _
  have pn : ∀ l : List Nat, x < 0 → S ([45] ++ l) = S (sgn (decide (x < 0)) ++ l) := fun l h => by rw [decide_eq_true h]; rfl
  have pp : ∀ l : List Nat, ¬ x < 0 → S ([] ++ l) = S (sgn (decide (x < 0)) ++ l) := fun l h => by rw [decide_eq_false h]; rfl
  have hfz : (S (List.replicate 18 48) ++ S (digs n)).length ≤ 1000 := by rw [eA, len_S, List.length_append, List.length_replicate]; omega
  by_cases hz : sc = 0
  · subst hz
    have hN : ntx n 0 = digs n := by unfold ntx; rw [if_pos rfl]
    rw [hN]
    have hv : ((0 : Nat) : Int) = 0 := rfl
    refine law_text_any ad x _ (S (digs n)) (S (List.replicate 18 48)) (Txt.slice (S (digs n)) none (some (-((0 : Nat) : Int)))) (Txt.slice (S (List.replicate 18 48) ++ S (digs n)) (some (-((0 : Nat) : Int))) none) _ q1 q2 hm fS fL hdl e4 (by rw [len_S, List.length_replicate]; decide) hfz rfl rfl ?_ ?_
      (fun h _ => by rw [em, S_app]; exact pn _ h) (fun h _ => by rw [nils, S_app]; exact pp _ h) (fun _ h => absurd rfl h) (fun _ h => absurd rfl h) (fun _ h => absurd rfl h) (fun _ h => absurd rfl h) (fun _ h => absurd rfl h) (fun _ h => absurd rfl h)
    · rw [show -((0 : Nat) : Int) = ((0 : Nat) : Int) from rfl, slice_to, len_S]; simp
    · rw [show -((0 : Nat) : Int) = ((0 : Nat) : Int) from rfl, eA, slice_from, len_S]; simp; omega
  · have hN : ntx n sc = aheadOf n sc ++ 46 :: behindOf n sc := by unfold ntx; rw [if_neg hz]
    rw [hN]
    have hb := behind_len n sc
    have hj : ∀ (s a b : List Nat), S s ++ S a ++ S [46] ++ S b = S (s ++ (a ++ 46 :: b)) := fun s a b => by rw [S_app, S_app, S_app]; simp
    have hlt : ∀ {P : Prop}, ((sc : Int) < ((S (digs n)).length : Int) → sc < (digs n).length) ∧ (¬ (sc : Int) < ((S (digs n)).length : Int) → ¬ sc < (digs n).length) := fun {P} => by rw [len_S]; exact ⟨fun h => by omega, fun h => by omega⟩
    refine law_text_any ad x _ (S (digs n)) (S (List.replicate 18 48)) (S ((digs n).take ((digs n).length - sc))) (S (behindOf n sc)) _ q1 q2 hm fS fL hdl e4 (by rw [len_S, List.length_replicate]; decide) hfz (by rw [slice_butlast _ _ (by omega)]) ?_ ?_ ?_
      (fun _ h => absurd (by omega) hz) (fun _ h => absurd (by omega) hz) ?_ ?_ ?_ ?_ ?_ ?_
    · rw [eA, slice_last _ _ (by omega), List.length_append, List.length_replicate, behind_is hd hs]
    · rw [len_S, List.length_take]; omega
    · rw [len_S]; omega
    · intro h _ hl
      rw [em, dots, hj, ahead_big hd ((hlt (P := True)).1 hl)]; exact pn _ h
    · intro h _ hl
      rw [nils, dots, hj, ahead_big hd ((hlt (P := True)).1 hl)]; exact pp _ h
    · intro h _ hl h18
      rw [em, dots, e0, hj, ahead_zero ((hlt (P := True)).2 hl) (by omega)]; exact pn _ h
    · intro h _ hl h18
      rw [nils, dots, e0, hj, ahead_zero ((hlt (P := True)).2 hl) (by omega)]; exact pp _ h
    · intro h _ hl h18
      have h8 : sc = 18 := by omega
      have ha : aheadOf n sc = [] := by unfold aheadOf; rw [if_pos h8]
      rw [em, dots, nils, hj, ha]; exact pn _ h
    · intro h _ hl h18
      have h8 : sc = 18 := by omega
      have ha : aheadOf n sc = [] := by unfold aheadOf; rw [if_pos h8]
      rw [dots, nils, hj, ha]; exact pp _ h
end
end
theorem flush_60 : True := by
  w_top off
  first | walk1 | trivial
section
open PySem PySem.W PyProof.Rows PySem.Calls
set_option Elab.async false
set_option maxRecDepth 100000
set_option maxHeartbeats 0
section
variable {w : World} {loose : List Str} {mean : ExcName → Option Value} {mg mb : Str → Option Value} {led : Led}
end
theorem read_num_x {w : World} {loose : List Str} {mean : ExcName → Option Value} {mg mb : Str → Option Value} {bl : Led} {rd d l n0 : Nat} {vs : List Value} {ts : List (Str × Str)} {nm sh : Addr} (fn : Value) (x : Int) (n sc : Nat) (hx : x.natAbs = n) (hn : n < 10 ^ 18) (hs : sc ≤ 18) (hnr : sc = 0 ∨ n % 10 ≠ 0)
    (hts : ts = numToks (decide (x < 0)) (ntx n sc) []) (R : RB w bl rd d l n0 vs ts) : RCon w loose mean mg mb bl d l nm sh 397 32 [.ref rd, fn] 0 ts.length (NumV d x sc) := by
  obtain ⟨a, b, H⟩ := shape_ntx hn hs
  by_cases h : x < 0
  · rw [decide_eq_true h] at hts
    have e : ts[0]? = some (Str.ofString "sign", Str.ofString "-") := by rw [hts, m45]; rfl
    have e1 : ts[0 + 1]? = some (Str.ofString "number", S (ntx n sc)) := by rw [hts]; rfl
    have el : ts.length = 0 + 1 + 1 := by rw [hts]; rfl
    have ex : x = -(n : Int) := by omega
    rw [el, ex]
    exact opnd_neg R fn _ _ _ e e1 (dec_ok H hnr)
  · rw [decide_eq_false h] at hts
    have e : ts[0]? = some (Str.ofString "number", S (ntx n sc)) := by rw [hts]; rfl
    have el : ts.length = 0 + 1 := by rw [hts]; rfl
    have ex : x = (n : Int) := by omega
    rw [el, ex]
    exact opnd_pos R fn _ _ _ e (dec_ok H hnr)
theorem read_ex_x {w : World} {loose : List Str} {mean : ExcName → Option Value} {mg mb : Str → Option Value} {bl : Led} {rd d l n0 : Nat} {vs : List Value} {ts : List (Str × Str)} {nm sh : Addr} (x : Int) (n sc : Nat) (hx : x.natAbs = n) (hn : n < 10 ^ 18) (hs : sc ≤ 18) (hnr : sc = 0 ∨ n % 10 ≠ 0)
    (hts : ts = exToks (decide (x < 0)) (ntx n sc)) (R : RB w bl rd d l n0 vs ts) : RCon w loose mean mg mb bl d l nm sh 436 54 [.ref rd] 0 ts.length (Val d (exprPd x sc)) := by
  obtain ⟨a, b, H⟩ := shape_ntx hn hs
  by_cases h : x < 0
  · rw [decide_eq_true h] at hts
    have el : ts.length = 9 := by rw [hts]; rfl
    have ex : x = -(n : Int) := by omega
    rw [el, ex]
    exact read_ex_neg _ hts R _ _ (dec_ok H hnr)
  · rw [decide_eq_false h] at hts
    have el : ts.length = 7 := by rw [hts]; rfl
    have ex : x = (n : Int) := by omega
    rw [el, ex]
    exact read_ex_pos _ hts R _ _ (dec_ok H hnr)
def ReaderOf (w : World) (led : Led) (ts : List (Str × Str)) (r : Value) (l' : Led) : Prop := ∃ rd d l nm sh n vs bl, r = .ref rd ∧ RB w bl rd d l n vs ts ∧ vs.length = ts.length ∧ St w bl l' d l nm sh 0 ∧ (∀ p ∈ led, p ∈ l') ∧ ∀ p ∈ led, p.1 ≠ d
theorem ReaderOf.elim {w : World} {led : Led} {ts : List (Str × Str)} {r : Value} {l' : Led} {P : Prop} (h : ReaderOf w led ts r l') (k : ∀ rd d l nm sh n vs bl, r = .ref rd → RB w bl rd d l n vs ts → vs.length = ts.length → St w bl l' d l nm sh 0 → (∀ p ∈ led, p ∈ l') → (∀ p ∈ led, p.1 ≠ d) → P) : P :=
  let ⟨rd, d, l, nm, sh, n, vs, bl, e, h1, h2, h3, h4, h5⟩ := h; k rd d l nm sh n vs bl e h1 h2 h3 h4 h5
section
variable {w : World} {loose : List Str} {mean : ExcName → Option Value} {mg mb : Str → Option Value} {led : Led}
theorem rd_num (x : Int) (n sc : Nat) (t : Tok) (hx : x.natAbs = n) (hn : n < 10 ^ 18) (hs : sc ≤ 18) (htab : TabAt led) : Con w loose mean mg mb 745 30 [.str (S (sgn (decide (x < 0)) ++ ntx n sc)) t] led (ReaderOf w led (numToks (decide (x < 0)) (ntx n sc) [])) := by
  obtain ⟨a, b, H⟩ := shape_ntx hn hs
  obtain ⟨its, h1, h2⟩ := nm_cut H (decide (x < 0))
  have hl := nm_len H (decide (x < 0))
  have hz := nmToks_len (decide (x < 0)) (ntx n sc) []
  rw [List.length_nil] at hz
  refine con_post (law_reader_ok _ t its (by omega) (nm_low H _) h1 (by rw [h2]; omega) htab) fun r l' p => ?_
  rw [h2] at p
  exact p
theorem rd_ex (x : Int) (n sc : Nat) (t : Tok) (hx : x.natAbs = n) (hn : n < 10 ^ 18) (hs : sc ≤ 18) (htab : TabAt led) : Con w loose mean mg mb 745 30 [.str (S (exText (decide (x < 0)) (ntx n sc))) t] led (ReaderOf w led (exToks (decide (x < 0)) (ntx n sc))) := by
  obtain ⟨a, b, H⟩ := shape_ntx hn hs
  obtain ⟨its, h1, h2⟩ := ex_cut H (decide (x < 0))
  have hl := ex_len H (decide (x < 0))
  have hz := exToks_len (decide (x < 0)) (ntx n sc)
  refine con_post (law_reader_ok _ t its (by omega) (ex_low H _) h1 (by rw [h2]; omega) htab) fun r l' p => ?_
  rw [h2] at p
  exact p
end
theorem TabAt.more {led led' : Led} (h : TabAt led) (hs : ∀ p ∈ led, p ∈ led') : TabAt led' := let ⟨ps, o, m⟩ := h; ⟨ps, o, hs _ m⟩
structure Keep (led led' : Led) : Prop where
  all : ∀ p ∈ led, p.1 ≠ 480 → p ∈ led'
  tn : ∀ a vs, (a, tupObj vs) ∈ led → a ≠ 480
theorem Keep.of {w : World} {bl led led' led2 : Led} {d l nm sh : Addr} {i : Nat} (hf : Func led') (S : St w bl led' d l nm sh i) (hs : ∀ p ∈ led, p ∈ led') (hn : ∀ p ∈ led, p.1 ≠ d) (sub : ∀ p ∈ led', Fx d p.1 → p ∈ led2) : Keep led led2 :=
  ⟨fun p hp h => sub p (hs p hp) ⟨hn p hp, h⟩, fun a vs h e => by
    obtain ⟨ps, _, hT⟩ := S.tab
    have := hf _ (hs _ h) _ hT e
    have := congrArg Obj.cls this
    cases this⟩
theorem Keep.tup {led led' : Led} (K : Keep led led') {a : Addr} {vs : List Value} (h : (a, tupObj vs) ∈ led) : (a, tupObj vs) ∈ led' := K.all _ h (K.tn _ _ h)
theorem reads_num {h₀ h : Heap} {L : Addr} {led : Led} {po ad : Addr} {u q1 q2 : Tok} {x : Int} {sc : Nat} (N : News h₀ L h led) (m1 : (po, tupObj [.str (Str.ofString "number") u, .ref ad]) ∈ led) (m2 : (ad, tupObj [.int x q1, .int (sc : Int) q2]) ∈ led) : Reads h (.ref po) (numPd x sc) [] :=
  .tuple (N _ m1).1 rfl rfl (.cons (.str _ _) (.cons (.tuple (N _ m2).1 rfl rfl (.cons (.int _ _) (.cons (.int _ _) .nil))) .nil))
theorem reads_item {h₀ h : Heap} {L : Addr} {led : Led} {pr e1 e2 : Addr} {u v : Tok} (N : News h₀ L h led) (m1 : (pr, tupObj [.str (Str.ofString "ref") u, .str (Str.ofString "A") v, .ref e1, .ref e2, .none]) ∈ led) (m2 : (e1, tupObj []) ∈ led) (m3 : (e2, tupObj []) ∈ led) : Reads h (.ref pr) itemPd [] :=
  .tuple (N _ m1).1 rfl rfl (.cons (.str _ _) (.cons (.str _ _) (.cons (.tuple (N _ m2).1 rfl rfl .nil) (.cons (.tuple (N _ m3).1 rfl rfl .nil) (.cons .none .nil)))))
theorem reads_expr {h₀ h : Heap} {L : Addr} {led : Led} {pe pm pb pr po ad e1 e2 : Addr} {x : Int} {sc : Nat} (N : News h₀ L h led) (H : ExprAt led pe pm pb pr po ad e1 e2 x sc) : Reads h (.ref pe) (exprPd x sc) [] := by
  obtain ⟨⟨u1, m1⟩, ⟨u2, v2, m2⟩, ⟨u3, v3, m3⟩, m4, m5, ⟨u6, m6⟩, ⟨u7, m7⟩, ⟨u8, m8⟩⟩ := H
  have r1 := reads_num N m1 m2
  have r2 := reads_item N m3 m4 m5
  exact .tuple (N _ m8).1 rfl rfl (.cons (.str _ _) (.cons (.tuple (N _ m7).1 rfl rfl (.cons (.str _ _) (.cons r2 (.cons r1 .nil)))) (.cons (.tuple (N _ m6).1 rfl rfl (.cons (.str _ _) (.cons r1 (.cons r2 .nil)))) .nil)))
theorem expr_at {led : Led} {po ad pr e1 e2 a1 a2 a3 : Addr} {u q1 q2 u3 v3 u1 u2 u4 : Tok} {x : Int} {sc : Nat} (kP : (po, tupObj [.str (Str.ofString "number") u, .ref ad]) ∈ led) (kA : (ad, tupObj [.int x q1, .int (sc : Int) q2]) ∈ led)
    (kR : (pr, tupObj [.str (Str.ofString "ref") u3, .str (Str.ofString "A") v3, .ref e1, .ref e2, .none]) ∈ led) (kE : (e1, tupObj []) ∈ led) (kF : (e2, tupObj []) ∈ led) :
    ExprAt ((a1, tupObj [.str (Str.ofString "+") u1, .ref a2, .ref a3]) :: (a3, tupObj [.str (Str.ofString "*") u2, .ref po, .ref pr]) :: (a2, tupObj [.str (Str.ofString "-") u4, .ref pr, .ref po]) :: led) a1 a2 a3 pr po ad e1 e2 x sc :=
  ⟨⟨_, .tail _ (.tail _ (.tail _ kP))⟩, ⟨_, _, .tail _ (.tail _ (.tail _ kA))⟩, ⟨_, _, .tail _ (.tail _ (.tail _ kR))⟩, .tail _ (.tail _ (.tail _ kE)), .tail _ (.tail _ (.tail _ kF)), ⟨_, .tail _ (.head _)⟩, ⟨_, .tail _ (.tail _ (.head _))⟩, ⟨_, .head _⟩⟩
theorem ExprAt.keep {led led' : Led} {pe pm pb pr po ad e1 e2 : Addr} {x : Int} {sc : Nat} (H : ExprAt led pe pm pb pr po ad e1 e2 x sc) (K : Keep led led') : ExprAt led' pe pm pb pr po ad e1 e2 x sc :=
  ⟨H.num.imp fun _ h => K.tup h, H.pair.imp fun _ h => h.imp fun _ h => K.tup h, H.ref.imp fun _ h => h.imp fun _ h => K.tup h, K.tup H.emp1, K.tup H.emp2, H.mul.imp fun _ h => K.tup h, H.sub.imp fun _ h => K.tup h, H.add.imp fun _ h => K.tup h⟩
theorem shp_num (x : Int) (sc : Nat) : SeqAt.shaped (numPd x sc) = true := by kernel_rfl
theorem shp_expr (x : Int) (sc : Nat) : SeqAt.shaped (exprPd x sc) = true := by kernel_rfl
theorem eqv_shp {pd : PyData} (h : SeqAt.shaped pd = true) : PyData.eqv pd pd = true := SeqAt.eqv_refl pd (by
  unfold SeqAt.shaped at h
  rw [Bool.and_eq_true] at h
  exact h.1)
section
variable {prog : Program} {w : World} {A : Around} {E : Value → Shared → Prop} {s : Shared} {h₀ : Heap} {L d : Addr} {led : Led} {pd : PyData} {a b : Value} {Q : Value → Shared → Prop}
theorem val_ne (N : News h₀ L s.heap led) (va : Val d pd led a) (rb : Reads s.heap b pd []) (hsh : SeqAt.shaped pd = true) (hu : A.units + 64 < cLine) (h : Q (.bool false) s) : wpAny (model prog w) A (compareOp .NotEq a b) Q E s := by
  obtain ⟨fz, h1, h2⟩ := va
  exact ne_dataH (h2 h₀ L s.heap fun p hp => N p (h1 p hp).1) rb hsh hsh hu (by rw [eqv_shp hsh]; exact h)
theorem val_eq (N : News h₀ L s.heap led) (va : Val d pd led a) (rb : Reads s.heap b pd []) (hsh : SeqAt.shaped pd = true) (hu : A.units + 64 < cLine) (h : Q (.bool true) s) : wpAny (model prog w) A (compareOp .Eq a b) Q E s := by
  obtain ⟨fz, h1, h2⟩ := va
  exact eq_dataH (h2 h₀ L s.heap fun p hp => N p (h1 p hp).1) rb hsh hsh hu (by rw [eqv_shp hsh]; exact h)
end
section
variable {w : World} {loose : List Str} {mean : ExcName → Option Value} {mg mb : Str → Option Value} {led : Led}
theorem law_right_ok (ad : Addr) (x : Int) (n sc : Nat) (q1 q2 : Tok) (hm : (ad, tupObj [.int x q1, .int (sc : Int) q2]) ∈ led) (hx : x.natAbs = n) (hn : n < 10 ^ 18) (hs : sc ≤ 18) (hnr : sc = 0 ∨ n % 10 ≠ 0) (htab : TabAt led) : Con w loose mean mg mb 752 60 [.ref ad] led (fun r l' => r = .bool true ∧ TabAt l' ∧ ∀ p ∈ led, p.1 ≠ 480 → p ∈ l') := by
  unfold Con
  k_fill
  intro dp un gd cn cs a ccd cl outer A₀ base h₀ L m s Q E B F X N T hkf hd hu ret
  have hne : (S (sgn (decide (x < 0)) ++ ntx n sc) != S (sgn (decide (x < 0)) ++ ntx n sc)) = false := bne_self_eq_false _
  refine wpAny_call ?_
  k_dflt (refine' code_def (binds := [("worth", Value.ref ad)]) ?k1 ?k2 ?k3 ?k4 ?k5 ?kA ?kF ?kK ?k6 ?k7 ?k8 ?k9 ?kB ?_ ?c2 ?c3 ?c4 ?c5; (case kA => exact rfl); (case kF => exact rfl); (case kK => first | assumption | exact rfl); (case k1 => k_asm); (case k2 => k_asm); (case k3 => k_asm); (case k4 => k_asm); (case k5 => k_asm); (case k6 => k_is); (case k7 => k_is); (case k8 => ktr_room); (case k9 => first | exact BindsTo.of_eq rfl | exact kp_binds (by k_in) (fun _ => by kernel_rfl)); (case c5 => decide); (case kB => exact locs rfl); (case c2 => exact rfl); (case c3 => exact rfl); (case c4 => exact rfl); k_whole; intro g' L' h' FG' F' N' B' X' T'; (try dsimp only); (try k_lift B'); (try k_fold))
  k_steps
  refine useN (by k_asm) (by k_asm) (by k_asm) (by k_asm) (by k_asm) (by first | exact rfl | assumption) (show_operand_num _ ad _ _ (by k_mem) _ (shown_number_ok ad x n sc q1 q2 (by k_mem) hx hn hs)) (by ktr_room) (by ktr_units) ?_
  intro t9 h9 tk9 F9 N9
  (try dsimp only)
  (try k_fold)
  k_steps
  refine useP (by k_asm) (by k_asm) (by k_asm) (by k_asm) (by k_asm) (by first | exact rfl | assumption) (rd_num x n sc _ hx hn hs (htab.more (by repeat (first | exact sub_self | refine sub_more ?_)))) (by ktr_room) (by ktr_units) ?_
  intro r8 led8 h8 tk8 F8 N8 p8
  refine ReaderOf.elim p8 fun rd8 d8 l8 nm8 sh8 n8 vs8 bl8 eR R8 hv8 S8 sub8 nd8 => ?_
  subst eR
  have hf8 := News.func N8
  (try dsimp only)
  (try k_fold)
  k_steps
  refine useN (by k_asm) (by k_asm) (by k_asm) (by k_asm) (by k_asm) (by first | exact rfl | assumption) (law_text_ok ad x n sc q1 q2 (sub8 _ (by k_mem)) hx hn hs) (by ktr_room) (by ktr_units) ?_
  intro t9 h9 tk9 F9 N9
  (try dsimp only)
  (try k_fold)
  k_steps
  refine useP (by k_asm) (by k_asm) (by k_asm) (by k_asm) (by k_asm) (by first | exact rfl | assumption) (read_num_x _ x n sc hx hn hs hnr rfl R8 _ (S8)) (by ktr_room) (by ktr_units) ?_
  intro r7 led7 h7 tk7 F7 N7 p7
  obtain ⟨S7, sub7, V7⟩ := p7
  obtain ⟨_, _, _, _, _, hOS7⟩ := S7.obj
  have hIS7 := S7.keep _ R8.inst
  have hLS7 := S7.keep _ R8.list
  (try dsimp only)
  (try k_fold)
  have K7 := Keep.of hf8 S8 sub8 nd8 sub7
  have kA := K7.tup (.tail _ (.tail _ (.tail _ (.tail _ (.tail _ hm)))))
  have kP := K7.tup (.tail _ (.tail _ (.tail _ (.tail _ (.head _)))))
  have kR := K7.tup (.tail _ (.head _))
  have kE := K7.tup (.tail _ (.tail _ (.head _)))
  have kF := K7.tup (.tail _ (.tail _ (.tail _ (.head _))))
  k_steps
  refine val_ne (by k_asm) V7.val (reads_num (by k_asm) kP kA) (shp_num x sc) (by ktr_units) ?_
  k_steps
  refine useN (by k_asm) (by k_asm) (by k_asm) (by k_asm) (by k_asm) (by first | exact rfl | assumption) (is_done_ok rd8 d8 l8 nm8 sh8 _ n8 _ _ _ _ _ vs8 (by k_mem) (by k_mem) (by k_mem) (Nat.le_trans R8.size (by decide)) true (decide_eq_true (by rw [hv8]; exact Int.le_refl _))) (by ktr_room) (by ktr_units) ?_
  intro t9 h9 tk9 F9 N9
  (try dsimp only)
  (try k_fold)
  k_steps
  refine useN (by k_asm) (by k_asm) (by k_asm) (by k_asm) (by k_asm) (by first | exact rfl | assumption) (show_expression_ok _ _ _ _ _ ad _ _ x n sc (expr_at kP kA kR kF kE) hx hn hs) (by ktr_room) (by ktr_units) ?_
  intro t9 h9 tk9 F9 N9
  (try dsimp only)
  (try k_fold)
  k_steps
  refine useP (by k_asm) (by k_asm) (by k_asm) (by k_asm) (by k_asm) (by first | exact rfl | assumption) (rd_ex x n sc _ hx hn hs (S7.tab.more (by repeat (first | exact sub_self | refine sub_more ?_)))) (by ktr_room) (by ktr_units) ?_
  intro r6 led6 h6 tk6 F6 N6 p6
  refine ReaderOf.elim p6 fun rd6 d6 l6 nm6 sh6 n6 vs6 bl6 eR R6 hv6 S6 sub6 nd6 => ?_
  subst eR
  have hf6 := News.func N6
  (try dsimp only)
  (try k_fold)
  k_steps
  refine useP (by k_asm) (by k_asm) (by k_asm) (by k_asm) (by k_asm) (by first | exact rfl | assumption) (read_ex_x x n sc hx hn hs hnr rfl R6 _ (S6)) (by ktr_room) (by ktr_units) ?_
  intro r5 led5 h5 tk5 F5 N5 p5
  obtain ⟨S5, sub5, V5⟩ := p5
  obtain ⟨_, _, _, _, _, hOS5⟩ := S5.obj
  have hIS5 := S5.keep _ R6.inst
  have hLS5 := S5.keep _ R6.list
  (try dsimp only)
  (try k_fold)
  have K5 := Keep.of hf6 S6 sub6 nd6 sub5
  have H5 := ExprAt.keep (expr_at kP kA kR kF kE) K5
  k_steps
  refine val_eq (by k_asm) V5 (reads_expr (by k_asm) H5) (shp_expr x sc) (by ktr_units) ?_
  k_steps
  refine useN (by k_asm) (by k_asm) (by k_asm) (by k_asm) (by k_asm) (by first | exact rfl | assumption) (is_done_ok rd6 d6 l6 nm6 sh6 _ n6 _ _ _ _ _ vs6 (by k_mem) (by k_mem) (by k_mem) (Nat.le_trans R6.size (by decide)) true (decide_eq_true (by rw [hv6]; exact Int.le_refl _))) (by ktr_room) (by ktr_units) ?_
  intro t9 h9 tk9 F9 N9
  (try dsimp only)
  (try k_fold)
  k_steps
  all_goals exact ret _ _ _ _ (by k_asm) (by k_asm) ⟨rfl, S5.tab, fun p hp h1 => K5.all p (.tail _ (.tail _ (.tail _ (K7.all p (.tail _ (.tail _ (.tail _ (.tail _ (.tail _ hp))))) h1)))) h1⟩
end
end
theorem flush_61 : True := by
  w_top off
  first | walk1 | trivial
section
open PySem PySem.W PyProof.Rows PySem.Calls
set_option Elab.async false
set_option maxRecDepth 100000
set_option maxHeartbeats 0
open PyProof.Rows.LCg
def Worth (led : Led) (v : Value) : Prop := ∃ ad x n sc q1 q2, v = .ref ad ∧ (ad, tupObj [.int x q1, .int ((sc : Nat) : Int) q2]) ∈ led ∧ x.natAbs = n ∧ n < 10 ^ 18 ∧ sc ≤ 18 ∧ (sc = 0 ∨ n % 10 ≠ 0)
theorem Worth.elim {led : Led} {v : Value} {P : Prop} (h : Worth led v) (k : ∀ ad x n sc q1 q2, v = .ref ad → (ad, tupObj [.int x q1, .int ((sc : Nat) : Int) q2]) ∈ led → x.natAbs = n → n < 10 ^ 18 → sc ≤ 18 → (sc = 0 ∨ n % 10 ≠ 0) → P) : P :=
  let ⟨ad, x, n, sc, q1, q2, e, m, h1, h2, h3, h4⟩ := h; k ad x n sc q1 q2 e m h1 h2 h3 h4
theorem Worth.more {led led' : Led} {v : Value} (h : Worth led v) (hs : ∀ p ∈ led, p ∈ led') : Worth led' v := let ⟨ad, x, n, sc, q1, q2, e, m, r⟩ := h; ⟨ad, x, n, sc, q1, q2, e, hs _ m, r⟩
theorem ne_480 {led : Led} {a : Addr} {o : Obj} (hf : Func led) (ht : TabAt led) (h : (a, o) ∈ led) (hc : o.cls ≠ .none) : a ≠ 480 := fun e => by
  obtain ⟨ps, _, hT⟩ := ht
  exact hc (congrArg Obj.cls (hf _ h _ hT e))
section
variable {prog : Program} {w : World} {A : Around} {E : Value → Shared → Prop} {s : Shared} {h₀ : Heap} {L : Addr} {m : Str → Option Value} {env : Env}
theorem right_rest {elt : PySem.Expr} {x : Str} {scope : Scope} {cl : List (Str × Addr)} {Fin : List Value → Led → Prop} {its : List Value} {ax : Addr} {k0 : Nat}
    (turn : ∀ (news : Led) (I : Addr) (oI : Obj) (C : Addr) (oC : Obj) (D : Addr) (oD : Obj) (m₂ : Str → Option Value) (h : Heap) (tk : Nat) (v : Value) (Q' E' : Value → Shared → Prop), NsObj oC m₂ → m₂ x = some v → Fr h₀ L h m → News h₀ L h ((I, oI) :: (C, oC) :: (D, oD) :: news) → TabAt news → Worth news v →
      (∀ l' h' tk', Fr h₀ L h' m → News h₀ L h' l' → TabAt l' → (∀ p ∈ (I, oI) :: (C, oC) :: (D, oD) :: news, p.1 ≠ 480 → p ∈ l') → Q' (.bool true) { s with heap := h', toks := tk' }) →
      wpAny (model prog w) A (eval elt (compEnvC scope cl C env)) Q' E' { s with heap := h, toks := tk })
    (fin : ∀ news, TabAt news → Fin (List.replicate its.length (.bool true)) news) :
    ∀ k i news, i + k = its.length → TabAt news → (∀ v ∈ its, Worth news v) → (ax, W.listOf its.toArray k0) ∈ news →
      CompRest prog w A h₀ L m env elt x scope cl s (SrcAt h₀ ax its.toArray) (fun i v => its.toArray[i]? = some v) Fin k i (List.replicate i (.bool true)) news
  | 0, i, news, hk, ht, hw, hl => by
    have e : i = its.length := by omega
    subst e
    exact fin news ht
  | k + 1, i, news, hk, ht, hw, hl => by
    intro v I oI C oC D m₂ h tk E' hv hNs hm F N off ne
    have hf := News.func N
    have hin : v ∈ its := by
      have hv' : its[i]? = some v := by simpa using hv
      exact List.mem_of_getElem? hv'
    refine turn news I oI C oC D _ m₂ h tk v _ E' hNs hm F N ht (hw v hin) fun l' h' tk' F' N' hT hK => ?_
    have h480 : ∀ {X : Addr}, (∀ p ∈ news, p.1 ≠ X) → (480 : Addr) ≠ X := fun h => let ⟨_, _, hm⟩ := ht; h _ hm
    have oI := h480 fun p hp => (off.mem p hp).1
    have oC := h480 fun p hp => (off.mem p hp).2.1
    have oD := h480 fun p hp => (off.mem p hp).2.2
    have keep : ∀ p ∈ news, p.1 ≠ 480 → p ∈ l'.filter (fun p => p.1 != I && p.1 != C && p.1 != D) := fun p hp h => List.mem_filter.mpr ⟨hK p (.tail _ (.tail _ (.tail _ hp))) h, by
      have := off.mem p hp
      simp [this.1, this.2.1, this.2.2]⟩
    have kt : ∀ {a : Addr} {o : Obj}, (a, o) ∈ news → o.cls ≠ .none → (a, o) ∈ l'.filter (fun p => p.1 != I && p.1 != C && p.1 != D) := fun hm hc => keep _ hm (ne_480 (fun p hp q hq => hf p (.tail _ (.tail _ (.tail _ hp))) q (.tail _ (.tail _ (.tail _ hq)))) ht hm hc)
    have hT' : TabAt (l'.filter (fun p => p.1 != I && p.1 != C && p.1 != D)) := by
      obtain ⟨ps, ok, hm⟩ := hT
      exact ⟨ps, ok, List.mem_filter.mpr ⟨hm, by simp [oI, oC, oD]⟩⟩
    have hl' := kt hl (fun h => nomatch h)
    refine CompEnd.intro F' N' (l'.filter (fun p => p.1 != I && p.1 != C && p.1 != D)) (fun p hp => ?_) (Off3.of fun p hp => ?_) (.inr ⟨_, hl', rfl, _, rfl⟩) ?_
    · simp only [List.mem_cons] at hp
      rcases hp with rfl | rfl | rfl | hp
      · exact hK _ (.head _) (Ne.symm oI)
      · exact hK _ (.tail _ (.head _)) (Ne.symm oC)
      · exact hK _ (.tail _ (.tail _ (.head _))) (Ne.symm oD)
      · exact (List.mem_filter.mp hp).1
    · have := (List.mem_filter.mp hp).2
      simp only [Bool.and_eq_true, bne_iff_ne] at this
      exact ⟨this.1.1, this.1.2, this.2⟩
    · have e : List.replicate i (Value.bool true) ++ [Value.bool true] = List.replicate (i + 1) (Value.bool true) := by rw [List.replicate_succ']
      rw [e]
      exact right_rest turn fin k (i + 1) _ (by omega) hT' (fun v hv => by
        obtain ⟨ad, x, n, sc, q1, q2, e, mm, r⟩ := hw v hv
        exact ⟨ad, x, n, sc, q1, q2, e, kt mm (fun h => nomatch h), r⟩) hl'
end
end
theorem flush_62 : True := by
  w_top off
  first | walk1 | trivial
section
open PySem PySem.W PyProof.Rows PySem.Calls
set_option Elab.async false
set_option maxRecDepth 100000
set_option maxHeartbeats 0
section
variable {w : World} {loose : List Str} {mean : ExcName → Option Value} {mg mb : Str → Option Value} {led : Led}
end
def PenPost (led : Led) (r : Value) (l' : Led) : Prop := ∃ pen, r = .ref pen ∧ PenAt l' pen 0 ∧ (∀ p ∈ led, p ∈ l') ∧ ∀ p ∈ led, p.1 ≠ pen
theorem pen_R {w : World} {loose : List Str} {mean : ExcName → Option Value} {mg mb : Str → Option Value} {led : Led} {sc : Addr} {vs : List Value} {xs : List Int} (hI : IntsAre vs xs) (hlen : xs.length ≤ 63) : ConL w loose mean mg mb sc vs 712 6 [.ref sc] led (PenPost led) :=
  fun dp un gd cn cs a ccd cl outer A₀ base h₀ L m s Q E B F X N T hkf hdp hu hl ret => law_pen_ok sc vs xs hI hlen dp un gd cn cs a ccd cl outer A₀ base h₀ L m s Q E B F X N T hkf hdp hu hl fun r l' h' tk' F' N' p => ret r l' h' tk' F' N' (by
    obtain ⟨D, p0, p2, t0, t1, t2, rfl, rfl, hlt, h0, h2, h3⟩ := p
    exact ⟨D, rfl, ⟨p0, 0, p2, t0, t1, t2, 0, .head _, h0, Int.le_refl _, Int.le_refl _, h2, h3⟩, fun p hp => .tail _ hp, fun p hp => Nat.ne_of_lt (hlt p hp)⟩)
section
variable {w : World} {loose : List Str} {mean : ExcName → Option Value} {mg mb : Str → Option Value} {led : Led} {sc f dep : Nat} {vs args : List Value} {post : Value → Led → Prop}
  {dp un : Nat} {gd : Option (List Code)} {cn : Str} {cs : Scope} {a : Addr} {ccd : Value} {cl : List (Str × Addr)} {outer : List Env} {A₀ : Around} {base h₀ : Heap} {L : Addr} {m : Str → Option Value} {s : Shared} {Q E : Value → Shared → Prop}
theorem useL (N : News h₀ L s.heap led) (F : Fr h₀ L s.heap m) (B : Below A₀ base outer h₀) (X : (hk.heap_1 w.params).In h₀) (T : Top topProg loose mean mg mb h₀) (hkf : cs.kind = .function) (hl : h₀.IsList sc vs.toArray) (C : ConL w loose mean mg mb sc vs f dep args led post)
    (hd : dp + dep < recursionLimit) (hu : un + 8 * dep < cLine) (ret : ∀ r led' h' tk', Fr h₀ L h' m → News h₀ L h' led' → post r led' → Q r { s with heap := h', toks := tk' }) :
    wpAny (model row0.prog w) (ktrTop dp un gd cn cs L a ccd cl outer) (call (.ref f) args) Q E s := C _ _ _ _ _ _ _ _ _ _ _ _ _ _ _ _ _ B F X N T hkf hd hu hl ret
def CutPost (led : Led) (r : Value) (l' : Led) : Prop := Worth l' r ∧ ∀ p ∈ led, p ∈ l'
theorem cut_R (x z : Int) (v1 v2 : Tok) (hx : x.natAbs < 10 ^ 18) (hz : 0 ≤ z) (hz2 : z ≤ 18) : Con w loose mean mg mb 733 6 [.int x v1, .int z v2] led (CutPost led) := by
  obtain ⟨k, rfl⟩ := Int.eq_ofNat_of_zero_le hz
  refine con_post (law_cut_ok x k v1 v2 hx (by omega)) ?_
  rintro r l' ⟨D, x', k', t1, t2, rfl, rfl, _, h1, h2, h3⟩
  exact ⟨⟨D, x', _, k', t1, t2, rfl, .head _, rfl, h1, h2, h3⟩, fun p hp => .tail _ hp⟩
end
theorem pen_ne {led : Led} {pen D : Addr} {k : Int} (h : PenAt led pen k) (hlt : ∀ p ∈ led, p.1 < D) : D ≠ pen := let ⟨_, _, _, _, _, _, _, hm, _⟩ := h; Nat.ne_of_gt (hlt _ hm)
theorem pen_480 {led : Led} {pen : Addr} {k : Int} (h : PenAt led pen k) (ht : TabAt led) (hf : Func led) : (480 : Addr) ≠ pen := fun e => by
  obtain ⟨_, _, _, _, _, _, _, hm, _⟩ := h
  obtain ⟨ps, _, hT⟩ := ht
  have := congrArg Obj.cls (hf _ hT _ hm e)
  cases this
theorem TabAt.but {led led' : Led} {pen : Addr} (ht : TabAt led) (hn : (480 : Addr) ≠ pen) (hs : ∀ p ∈ led, p.1 ≠ pen → p ∈ led') : TabAt led' := let ⟨ps, o, hT⟩ := ht; ⟨ps, o, hs _ hT hn⟩
theorem pow_many {v : Int} (h : v = 18 ∨ v = 3 ∨ v = 9) : ∃ many : Int, (10 : Int) ^ v.toNat = many ∧ 2 ≤ many ∧ many ≤ 10 ^ 18 := by
  rcases h with rfl | rfl | rfl <;> exact ⟨_, rfl, by decide, by decide⟩
def StepIf : Prop := True
def IntOf (B : Nat) (s : Shared) (v : Value) (s' : Shared) : Prop := ∃ x t tk, v = .int x t ∧ x.natAbs < B ∧ s' = { s with toks := tk }
theorem int_step {B : Nat} {M : Model} {A : Around} {t : Sem Value} {Q E : Value → Shared → Prop} {s : Shared} (h : StepIf → wpAny M A t (IntOf B s) E s) (k : ∀ x u tk, x.natAbs < B → Q (.int x u) { s with toks := tk }) : Hold (wpAny M A t Q E s) :=
  wpAny_mono (h trivial) (fun v s' hv => by
    obtain ⟨x, u, tk, rfl, hb, rfl⟩ := hv
    exact k x u tk hb) fun _ _ e => e
local macro_rules | `(tactic| walk_at "binaryOp Pow int int") => `(tactic| (k_here; k_dflt (refine' pow_is ?e ?a ?b ?c ?_; (case e => with_reducible assumption); (case a => omega); (case b => omega); (case c => decide); k_whole); intro k9 t9; (try dsimp only)))
local macro_rules | `(tactic| walk_at "eval IfExp") => `(tactic| (k_here; (fail_if_success (have : StepIf := by assumption)); refine holdW ?_))
local macro_rules | `(tactic| walk_at "eval ListComp") => `(tactic| (k_here; refine holdW ?_))
theorem fin : PySem.Challenge.rw_pq0636_01.Holds := by
  refine hd ?_
  k_go0
  (all_goals try k_fold)
  k_steps
  refine useL (by k_asm) (by k_asm) (by k_asm) (by k_asm) (by k_asm) (by first | exact rfl | assumption) (by assumption) (pen_R (by assumption) (by omega)) (by ktr_room) (by ktr_units) ?_
  intro r9 led9 h9 tk9 F9 N9 p9
  refine ex1_4 p9 fun pen eP hP9 hs9 hn9 => ?_
  subst eP
  (try dsimp only)
  (try k_fold)
  have hT9 : TabAt led9 := ⟨_, .inl rfl, hs9 _ (.head _)⟩
  have hne : (480 : Addr) ≠ pen := hn9 _ (.head _)
  k_steps
  refine useP (by k_asm) (by k_asm) (by k_asm) (by k_asm) (by k_asm) (by first | exact rfl | assumption) (draw_R pen 0 2 _ (by decide) (hP9.more (by repeat (first | exact sub_self | refine sub_more ?_))) (by first | decide | assumption) (by first | decide | assumption)) (by ktr_room) (by ktr_units) ?_
  intro r8 led8 h8 tk8 F8 N8 p8
  refine ex2_4 p8 fun dg8 u8 eD hd8 hP8 hs8 => ?_
  subst eD
  have hT8 := (hT9.more (by repeat (first | exact sub_self | refine sub_more ?_))).but hne hs8
  (try dsimp only)
  (try k_fold)
  k_steps
  refine useP (by k_asm) (by k_asm) (by k_asm) (by k_asm) (by k_asm) (by first | exact rfl | assumption) (draw_R pen 1 19 _ (by decide) (hP8.more (by repeat (first | exact sub_self | refine sub_more ?_))) (by first | decide | assumption) (by first | decide | assumption)) (by ktr_room) (by ktr_units) ?_
  intro r7 led7 h7 tk7 F7 N7 p7
  refine ex2_4 p7 fun dg7 u7 eD hd7 hP7 hs7 => ?_
  subst eD
  have hT7 := (hT8.more (by repeat (first | exact sub_self | refine sub_more ?_))).but hne hs7
  (try dsimp only)
  (try k_fold)
  k_steps
  refine useP (by k_asm) (by k_asm) (by k_asm) (by k_asm) (by k_asm) (by first | exact rfl | assumption) (law_pick_ok pen _ 2 _ _ _ _ (by decide) (hP7.more (by repeat (first | exact sub_self | refine sub_more ?_))) (by k_mem) (pen_ne hP7 (by first | assumption | exact ktn_ltOf (by assumption) | exact ktn_ltOf (And.right (by assumption)) | exact ktn_ltOf (And.right (And.right (by assumption)))))) (by ktr_room) (by ktr_units) ?_
  intro r6 led6 h6 tk6 F6 N6 p6
  refine ex2_4 p6 fun v6 u6 eD hv6 hP6 hs6 => ?_
  subst eD
  have hT6 := (hT7.more (by repeat (first | exact sub_self | refine sub_more ?_))).but hne hs6
  refine ex1_3 (pow_many hv6) fun many hmany hm2 hm18 => ?_
  have hv0 : 0 ≤ v6 ∧ v6 ≤ 18 := by omega
  (try dsimp only)
  (try k_fold)
  k_steps
  refine useP (by k_asm) (by k_asm) (by k_asm) (by k_asm) (by k_asm) (by first | exact rfl | assumption) (draw_R pen 3 many _ (by decide) (hP6.more (by repeat (first | exact sub_self | refine sub_more ?_))) (by first | decide | assumption) (by first | decide | assumption)) (by ktr_room) (by ktr_units) ?_
  intro r5 led5 h5 tk5 F5 N5 p5
  refine ex2_4 p5 fun dg5 u5 eD hd5 hP5 hs5 => ?_
  subst eD
  have hT5 := (hT6.more (by repeat (first | exact sub_self | refine sub_more ?_))).but hne hs5
  (try dsimp only)
  (try k_fold)
  k_steps
  refine int_step (B := 10 ^ 18) (fun hsi => ?h) ?_
  case h =>
    k_steps
    all_goals exact ⟨_, _, _, rfl, by omega, rfl⟩
  intro x9 ux tkx hx9
  (try dsimp only)
  k_steps
  refine useP (by k_asm) (by k_asm) (by k_asm) (by k_asm) (by k_asm) (by first | exact rfl | assumption) (cut_R x9 _ _ _ hx9 (by omega) (by omega)) (by ktr_room) (by ktr_units) ?_
  intro r4 led4 h4 tk4 F4 N4 p4
  have hs4 := p4.2
  refine Worth.elim p4.1 fun ad4 x4 n4 sc4 q4 v4 eW m4 hx4 hn4 hsc4 hnr4 => ?_
  subst eW
  (try dsimp only)
  (try k_fold)
  have hT4 : TabAt led4 := (hT5.more (by repeat (first | exact sub_self | refine sub_more ?_))).more hs4
  k_steps
  refine PyProof.Rows.LCg.ListComp_U (F₀ := by k_asm) (by rfl) (by decide) (by rfl) (by decide) (by rfl) ?_
  walk1
  refine PyProof.Rows.LCg.CompSrc.ledger (by rfl) (by k_asm) (by k_asm) (.head _) (Nat.le_of_ble_eq_true rfl) ?_
  intro g9
  refine right_rest ?turn ?fin 5 0 _ rfl (hT4.more (by repeat (first | exact sub_self | refine sub_more ?_))) ?hw (.head _)
  case hw =>
    intro v hv
    simp only [List.mem_cons, List.not_mem_nil, or_false] at hv
    rcases hv with rfl | rfl | rfl | rfl | rfl
    · exact ⟨_, x4, n4, sc4, q4, v4, rfl, by k_mem, hx4, hn4, hsc4, hnr4⟩
    · exact ⟨_, 5, 5, 18, _, _, rfl, by k_mem, rfl, by decide, by decide, .inr (by decide)⟩
    · exact ⟨_, -123456789012345678, 123456789012345678, 18, _, _, rfl, by k_mem, rfl, by decide, by decide, .inr (by decide)⟩
    · exact ⟨_, 5, 5, 17, _, _, rfl, by k_mem, rfl, by decide, by decide, .inr (by decide)⟩
    · exact ⟨_, 123456789012345678, 123456789012345678, 0, _, _, rfl, by k_mem, rfl, by decide, by decide, .inl rfl⟩
  case turn =>
    intro news I oI C oC D oD m₂ hh tkk v Q' E' hNs hm2 F8 N8 hT8n hW8 hQ8
    refine Worth.elim hW8 fun ad x n sc q1 q2 eW mm hx hn hsc hnr => ?_
    subst eW
    iterate 9 (walk1; (try dsimp only))
    refine useP (by k_asm) (by k_asm) (by k_asm) (by k_asm) (by k_asm) (by first | exact rfl | assumption) (law_right_ok ad x n sc _ _ (by k_mem) hx hn hsc hnr (hT8n.more (by repeat (first | exact sub_self | refine sub_more ?_)))) (by ktr_room) (by ktr_units) ?_
    intro r1 led1 h1 tk1 F1 N1 p1
    have hT1 := p1.2.1
    have hK1 := p1.2.2
    obtain rfl := p1.1
    (try dsimp only)
    (try k_fold)
    exact hQ8 _ _ _ (by k_asm) (by k_asm) hT1 hK1
  case fin =>
    intro news hTn
    obtain ⟨ps, _, hmT⟩ := hTn
    show PyProof.Rows.LCg.FinE _ _ _ _ _ [.bool true, .bool true, .bool true, .bool true, .bool true] news
    k_steps
end
theorem flush_63 : True := by
  w_top off
  first | walk1 | trivial
end
theorem flush_64 : True := by
  w_top off
  first | walk1 | trivial
end
theorem flush_65 : True := by
  w_top off
  first | walk1 | trivial
end
theorem flush_66 : True := by
  w_top off
  first | walk1 | trivial
end Mine
theorem PySem.Challenge.cw_pq0636_01_holds : PySem.Challenge.rw_pq0636_01.Holds :=
  Mine.fin
